import PyProof.Rows.All
import Wide.All
import OpenK.AllK
import Wide.FinOn
import HandS.ForMost
import HandS.Property
import HandS.IsInst
import HandS.Defaults
import HandS.MakeKw
import HandS.WideBits
import HandS.TupAny
import HandS.Walk
import HandS.Deep
import HandS.OwnEq
import HandS.HeadHook4
import KE.KOpsOwn
import KE.KCallOwn
import HandS.Style
import HandS.TryOnly
import HandS.RaiseMore
import KE.DatumOrd
import PyProof.Rows.StrRev
import HandS.Strs
import PyProof.ListStr
import HandS.Conv
import HandS.More
import PyProof.StrLawsIn
import HandS.ClsMeth
import HandS.HeadNt
import HandS.Head0
import HandS.Head1
import HandS.Head2
import HandS.HeadEnd
import HandS.Star
import HandS.TryMany
import HandS.ExcCtx
import HandS.ExcInit
import HandS.ExcField
import HandS.Hot
import HandS.HotCalls
import HandS.Lambda
import HandS.EndTab
import HandS.NestedK
import KE.KIsAll
import PyProof.ExcBaseAll.ArithmeticError
import PyProof.ExcBaseAll.LookupError
import KE.KExcInit
import OpenK.KWalk
import HandS.Iter
import HandS.Comp
import HandS.SetTxtIn
import PyProof.Rows.Range3
import PyProof.CollectStr
import PyProof.TupleOfSeq
import KE.GoesMore
import HandS.DictComp
import HandS.MakeKwOnly
import HandS.Wide
import HandS.List
import PyProof.TupleOfStr
import PySem.Challenge.RW_wherebegun_k12_kinds_met
set_option Elab.async false
set_option linter.all false
set_option maxRecDepth 100000
set_option maxHeartbeats 4000000
namespace WB
open PySem PySem.Spec PyProof.Rows L2
section
variable {X : Cx} {CX : CXT} {k : Nat} {f C : Addr} {fd : FuncData} {ps : List Str} {sp : Sp} {dvs : List V} {ds : List Value} {E : XK}
theorem run_sub {A : Around} {pins : List (Addr × Obj)} {σ : L2.St} {H : Hp} {s : Shared} {Q : VK} {us : List Value} {vs : List V} (F : FnOk X.prog X.w X.K X.mg X.base CX k f fd ps sp) (sb : Sub X k A) (hb : Binds X.K fd ps ds) (hd : Vals dvs ds) (hx : Passes CX X E)
    (I : Inv X pins σ H s) (r : Vals vs us) (h : sp (vs ++ dvs) H Q E) : wpAny (model X.prog X.w) A (call (.ref f) us) (EP X pins σ Q) X.xe s := by
  have r2 : Vals (vs ++ dvs) (us ++ ds) := r.append hd
  have hl : (us ++ ds).length = ps.length := by rw [← r2.length]; exact F.len _ _ _ _ h
  have e0 : Env0 X.prog X.w X.K X.mg X.base A X.stack s H := by
    have e := I.env0
    exact ⟨by rw [sb.fr]; exact e.frames, e.mod, e.bs, e.bsz, e.funs, e.frf, e.hok, e.bare⟩
  refine wpAny_call (codeAny_mono (F.run A X.stack s H ⟨us, []⟩ (us ++ ds) (vs ++ dvs) Q E sb.room e0 (hb s us I.kIn hl) r2 h) fun r s' hq => ?_)
  cases r with
  | error e => exact hx pins σ H s e s' I hq
  | ok fl =>
    cases fl with
    | ret u => exact I.after hq
    | next => exact False.elim hq
    | brk => exact False.elim hq
    | cont => exact False.elim hq
theorem inst_at {pins : List (Addr × Obj)} {σ : L2.St} {H : Hp} {s : Shared} {a C dx : Addr} {fs : List (Str × V)} (I : Inv X pins σ H s) (e : H a = some (.ins C dx fs)) : ∃ ox od, PySem.W.InstAt s.heap a ox C od := by
  obtain ⟨mA, J, _⟩ := ins_get I.hok e
  obtain ⟨od, J, _⟩ := J.look
  exact ⟨_, _, J⟩
structure Spec1 (K : PySem.W.Frag) (C : Addr) (m : Str) (f : Addr) : Prop where
  at_ : PySem.W.findIn K (.ref C) m = some (some (.ref f))
  fn : PySem.W.isFn K (.ref f) = true
def rStrO (C : Addr) (sp : Sp) (E : XK) : List V → Hp → VK → Prop := fun xs H Q => ∃ a dx fs, xs = [.ref a] ∧ H a = some (.ins C dx fs) ∧ sp [.ref a] H (fun z H' => ∃ y, z = .str y ∧ Q z H') E
def rEqO (C : Addr) (sp : Sp) (E : XK) : R2 := fun x y H Q => ∃ a dx fs b dy gs, x = .ref a ∧ y = .ref b ∧ H a = some (.ins C dx fs) ∧ H b = some (.ins C dy gs) ∧ sp [x, y] H (fun z H' => ∃ c, z = .bl c ∧ Q z H') E
theorem op_eqO (S : Spec1 X.K C "__eq__" f) (F : FnOk X.prog X.w X.K X.mg X.base CX k f fd ps sp) (hr : Room k X.A) (hb : Binds X.K fd ps []) (hx : Passes CX X E) : OpR X (compareOp .Eq) (rEqO C sp E) := by
  intro pins s σ H x y v u Q I rx ry h
  obtain ⟨a, dx, fs, b, dy, gs, rfl, rfl, ha, hb', h⟩ := h
  cases rx
  cases ry
  obtain ⟨ox, od, J⟩ := inst_at I ha
  obtain ⟨ox', od', J'⟩ := inst_at I hb'
  obtain ⟨m, hF⟩ := I.fr
  have sb : Sub X k X.A := ⟨hr, rfl⟩
  show wpAny (model X.prog X.w) X.A (richCompare .Eq (.ref a) (.ref b)) (EP X pins σ Q) X.xe s
  refine PySem.W.cmp_K (op := .Eq) (tb := .ref C) sb.room.units0 hF I.ok.mod.kin J J'.type (by simp [PySem.W.notFirst]) S.at_ S.fn (wpAny_mono (run_sub (dvs := []) (vs := [.ref a, .ref b]) F sb hb .nil hx I (.cons rfl (.cons rfl .nil)) h) (fun v s' hv => ?_) fun _ _ z => z)
  obtain ⟨z, H', I', rz, c, rfl, q⟩ := hv
  cases rz
  exact ⟨.bl c, H', I', rfl, q⟩
def rInO (C : Addr) (neg : Bool) (sp : Sp) (E : XK) : R2 := fun x y H Q => ∃ a dx fs, y = .ref a ∧ H a = some (.ins C dx fs) ∧ sp [y, x] H (fun z H' => ∃ c, z = .bl c ∧ Q (.bl (if neg then !c else c)) H') E
theorem op_inO (S : Spec1 X.K C "__contains__" f) (F : FnOk X.prog X.w X.K X.mg X.base CX k f fd ps sp) (hr : Room k X.A) (hb : Binds X.K fd ps []) (hx : Passes CX X E) : OpR X (compareOp .In) (rInO C false sp E) := by
  intro pins s σ H x y v u Q I rx ry h
  obtain ⟨a, dx, fs, rfl, ha, h⟩ := h
  cases ry
  obtain ⟨ox, od, J⟩ := inst_at I ha
  obtain ⟨m, hF⟩ := I.fr
  refine PySem.W.in_K hF I.ok.mod.kin J S.at_ S.fn (wpAny_mono (run_sub (dvs := []) (vs := [.ref a, x]) F ⟨hr, rfl⟩ hb .nil hx I (.cons rfl (.cons rx .nil)) h) (fun v s' hv => ?_) fun _ _ z => z)
  obtain ⟨z, H', I', rz, c, rfl, q⟩ := hv
  cases rz
  exact wpAny_truthy_bool ⟨.bl c, H', I', rfl, q⟩
end
end WB
namespace WB
open PySem PySem.Spec PyProof.Rows L2
def S (l : List Nat) : Str := ⟨l.toArray⟩
theorem S_cps (l : List Nat) : (S l).cps.toList = l := by simp [S]
theorem S_len (l : List Nat) : (S l).length = l.length := by simp [S, Str.length]
theorem S_app (a b : List Nat) : S a ++ S b = S (a ++ b) := by
  show Str.mk (a.toArray ++ b.toArray) = S (a ++ b)
  simp [S]
theorem S_inj {a b : List Nat} (h : S a = S b) : a = b := by
  have := congrArg (fun z : Str => z.cps.toList) h
  simpa [S] using this
theorem S_of (z : Str) : z = S z.cps.toList := by
  cases z
  simp [S]
def rAddI : R2 := rI0 fun i j => .int (i + j)
def rSubI : R2 := rI0 fun i j => .int (i - j)
def rMulI : R2 := rI CMul fun i j => .int (i * j)
def rDivI : R2 := rI CDiv fun i j => .int (i / j)
def rModI : R2 := rI (fun _ j => 0 < j) fun i j => .int (i % j)
def rPowI : R2 := rI CPow fun i j => .int (i ^ j.toNat)
def rLtI : R2 := rI0 fun i j => .bl (decide (i < j))
def rLeI : R2 := rI0 fun i j => .bl (decide (i ≤ j))
def rGtI : R2 := rI0 fun i j => .bl (decide (j < i))
def rGeI : R2 := rI0 fun i j => .bl (decide (j ≤ i))
def rNegI : V → Hp → VK → Prop := rU fun i => .int (-i)
def rLenV (K : PySem.W.Frag) : List V → Hp → VK → Prop := fun xs H Q => ∃ x n, xs = [x] ∧ LenV K x H n ∧ Q (.int n) H
def rAbsI : List V → Hp → VK → Prop := fun xs H Q => ∃ i, xs = [.int i] ∧ Q (.int (if i < 0 then -i else i)) H
def rIntI : List V → Hp → VK → Prop := fun xs H Q => (∃ i, xs = [.int i] ∧ Q (.int i) H) ∨ ∃ k, xs = [.bl k] ∧ Q (.int (if k then 1 else 0)) H
def rMin2 : List V → Hp → VK → Prop := fun xs H Q => ∃ i j, xs = [.int i, .int j] ∧ Q (.int (if j < i then j else i)) H
def rMax2 : List V → Hp → VK → Prop := fun xs H Q => ∃ i j, xs = [.int i, .int j] ∧ Q (.int (if j > i then j else i)) H
def rDivmod : List V → Hp → VK → Prop := fun xs H Q => ∃ i j, xs = [.int i, .int j] ∧ CDivP i j ∧ ∀ p, H p = none → Q (.ref p) (upd H p (.tup [.int (i / j), .int (i % j)]))
def rInSg : R2 := fun x y H Q => ∃ (c : Nat) (z : Str), x = .str ⟨#[c]⟩ ∧ y = .str z ∧ Q (.bl (decide (c ∈ z.cps.toList))) H
def rNotInSg : R2 := fun x y H Q => ∃ (c : Nat) (z : Str), x = .str ⟨#[c]⟩ ∧ y = .str z ∧ Q (.bl (!decide (c ∈ z.cps.toList))) H
def rIsN1 : R2 := fun x y H Q => y = .non ∧ Q (.bl (decide (x = .non))) H
def rNotN1 : R2 := fun x y H Q => y = .non ∧ Q (.bl (!decide (x = .non))) H
def rJoin (K : PySem.W.Frag) : V → List V → Hp → VK → Prop := fun x xs H Q => ∃ a p, ∃ ys : List Str, x = .str a ∧ xs = [.ref p] ∧ (SqL K H p (ys.map V.str) ∨ SqT K H p (ys.map V.str)) ∧
      (ys.map (·.length)).sum + ys.length * a.length ≤ 16777216 ∧ Q (.str (Txt.join a ys)) H
section
variable {X : Cx}
theorem pe_globI {x : Str} {i : Int} {pos : Pos} (hg : Gl X x) (hm : ∃ t, X.mg x = some (.int i t)) (hd : (x == ("__debug__" : Str)) = false := by decide) : PE X (.Name x pos) (tC (.int i)) := by
  obtain ⟨t, h⟩ := hm
  exact pe_glob hg h ⟨t, rfl⟩ hd
def rAddS : R2 := fun x y H Q => ∃ a b, x = .str (S a) ∧ y = .str (S b) ∧ a.length + b.length ≤ sizeLine ∧ Q (.str (S (a ++ b))) H
theorem op_addS : OpR X (binaryOp .Add) rAddS := by
  intro pins s σ H x y v u Q I rx ry h
  obtain ⟨a, b, rfl, rfl, hl, q⟩ := h
  exact op_add_str pins s σ H _ _ v u Q I rx ry ⟨_, _, rfl, rfl, by rw [S_len, S_len]; exact hl, by rw [S_app]; exact q⟩
end
end WB
namespace WB
open PySem PySem.Spec PyProof.Rows L2
def minL (x : List Nat) (xs : List (List Nat)) : List Nat := xs.foldl (fun a y => if decide (y < a) = true then y else a) x
abbrev vS (l : List Nat) : V := .str (S l)
def rMinS (K : PySem.W.Frag) : List V → Hp → VK → Prop := fun vs H Q => ∃ (a : Addr) (x : List Nat) (xs : List (List Nat)), vs = [.ref a] ∧ SqL K H a ((x :: xs).map vS) ∧ Q (vS (minL x xs)) H
section
variable {X : Cx}
theorem minOf_S : ∀ (xs : List (List Nat)) (x : List Nat), PySem.W.minOf (S x) (xs.map S) = S (minL x xs)
  | [], x => rfl
  | y :: ys, x => by
    show PySem.W.minOf (if PySem.W.DatumOrd.lt (S y) (S x) = true then S y else S x) (ys.map S) = S (minL (if decide (y < x) = true then y else x) ys)
    have e : PySem.W.DatumOrd.lt (S y) (S x) = decide (y < x) := by
      show decide ((S y).cps.toList < (S x).cps.toList) = decide (y < x)
      rw [S_cps, S_cps]
    rw [e]
    by_cases h : decide (y < x) = true
    · rw [if_pos h, if_pos h]; exact minOf_S ys y
    · rw [if_neg h, if_neg h]; exact minOf_S ys x
theorem cr_minS (hc : X.calm = true) (hu : X.A.units + 64 < cLine) : CallR X (.builtin "min") (rMinS X.K) := by
  intro pins s σ H vs us Q I r h
  obtain ⟨a, x, xs, rfl, hs, q⟩ := h
  obtain ⟨its, rv, hl, _⟩ := I.list hs
  rw [Vals.ref1 r]
  have hst : StrsAre its ((x :: xs).map S) := by
    have e : ((x :: xs).map vS) = (((x :: xs).map S).map V.str) := by rw [List.map_map]; rfl
    rw [e] at rv
    exact strsAre_of rv
  refine PySem.W.min_list_datum (α := Str) (x := S x) (xs := xs.map S) (I.ok.hd hc) hl.isList (by
    have := PySem.W.HoldAll.of_strs (h := s.heap) hst
    simpa using this) ?_ fun i v h' tk hv hh hk => ?_
  · show X.A.units + 1 + PySem.W.Datum.depth Str < cLine
    have : PySem.W.Datum.depth Str = 0 := rfl
    omega
  · rw [minOf_S] at hh
    obtain ⟨bs, rd⟩ := hh
    have rd : Reads h' v (.str (S (minL x xs))) bs := rd
    cases rd
    exact ⟨.str _, H, I.kept hk, ⟨_, rfl⟩, q⟩
def tRevS (te : TE) : TE := fun σ H Q => te σ H fun x H1 => ∃ l : List Nat, x = vS l ∧ l.length ≤ sizeLine ∧ Q (vS l.reverse) H1
variable {CX : CXT} {k : Nat} {f C : Addr} {fd : FuncData} {ps : List Str} {sp : Sp} {E : XK}
def rBinO (C : Addr) (sp : Sp) (E : XK) : R2 := fun x y H Q => ∃ a dx fs, x = .ref a ∧ H a = some (.ins C dx fs) ∧ (∃ b dy gs, y = .ref b ∧ H b = some (.ins C dy gs)) ∧ sp [x, y] H Q E
theorem cmpBack {pins : List (Addr × Obj)} {σ : L2.St} {Q : VK} {v : Value} {s' : Shared} (h : EP X pins σ Q v s') : PySem.W.CmpBack (EP X pins σ Q) v s' := by
  obtain ⟨z, H', I', rz, q⟩ := h
  cases z with
  | non => cases rz; exact ⟨.non, H', I', rfl, q⟩
  | bl b => cases rz; exact ⟨.bl b, H', I', rfl, q⟩
  | int i => obtain ⟨t, rfl⟩ := rz; exact ⟨.int i, H', I', ⟨t, rfl⟩, q⟩
  | str i => obtain ⟨t, rfl⟩ := rz; exact ⟨.str i, H', I', ⟨t, rfl⟩, q⟩
  | byt i => obtain ⟨t, rfl⟩ := rz; exact ⟨.byt i, H', I', ⟨t, rfl⟩, q⟩
  | flt i => obtain ⟨t, rfl⟩ := rz; exact ⟨.flt i, H', I', ⟨t, rfl⟩, q⟩
  | ref a => cases rz; exact ⟨.ref a, H', I', rfl, q⟩
  | ty n => cases rz; exact ⟨.ty n, H', I', rfl, q⟩
theorem op_binO_same {op : Operator} (S1 : Spec1 X.K C (PySem.dunder op.info.2) f) (sf : PySem.W.selfFirst X.K C = true) (F : FnOk X.prog X.w X.K X.mg X.base CX k f fd ps sp) (hr : Room k X.A) (hb : Binds X.K fd ps []) (hx : Passes CX X E) : OpR X (binaryOp op) (rBinO C sp E) := by
  intro pins s σ H x y v u Q I rx ry h
  obtain ⟨a, dx, fs, rfl, ha, ⟨b, dy, gs, rfl, hb'⟩, h⟩ := h
  cases rx
  cases ry
  obtain ⟨ox, od, J⟩ := inst_at I ha
  obtain ⟨ox', od', J'⟩ := inst_at I hb'
  obtain ⟨m, hF⟩ := I.fr
  exact PySem.W.binop_K hF I.ok.mod.kin J J'.type sf S1.at_ S1.fn (wpAny_mono (run_sub (dvs := []) (vs := [.ref a, .ref b]) F ⟨hr, rfl⟩ hb .nil hx I (.cons rfl (.cons rfl .nil)) h) (fun v s' hv => cmpBack hv) fun _ _ z => z)
structure BinT (K : PySem.W.Frag) (C : Addr) (nm T : String) (f : Addr) : Prop where
  sp : Spec1 K C (PySem.dunder nm) f
  sf : PySem.W.selfFirst K C = true
  rc : PySem.W.findIn K (.ref C) (dunderR nm) = some none
  h1 : ∃ fo, PySem.W.findIn K (.type T) (PySem.dunder nm) = some fo
  h2 : ∃ ro, PySem.W.findIn K (.type T) (dunderR nm) = some ro
  sub : PySem.W.subIn K (.type T) (.ref C) = some false
end
end WB
namespace WB
open PySem PySem.Spec PyProof.Rows L2
abbrev St := L2.St
def Ex (m : List Addr) (H H' : Hp) : Prop := ∀ b o, b ∉ m → H b = some o → H' b = some o
section
variable {m m' : List Addr} {H H' H1 H2 : Hp} {a p : Addr} {o u : HO} {K : PySem.W.Frag} {xs : List V}
theorem Ex.rfl : Ex m H H := fun _ _ _ h => h
theorem Ex.trans (a : Ex m H H1) (b : Ex m H1 H2) : Ex m H H2 := fun x o n h => b x o n (a x o n h)
theorem Ex.snoc (b : Ex m H1 H2) (a : Ex m H H1) : Ex m H H2 := a.trans b
theorem Ex.wide (e : Ex [] H H') : Ex m H H' := fun b o _ h => e b o (by simp) h
theorem Ex.snocW (b : Ex [] H1 H2) (a : Ex m H H1) : Ex m H H2 := a.trans b.wide
theorem Ex.new (h : H p = none) : Ex m H (upd H p o) := fun a u _ e => by rw [upd_ne (ne_of_none e h)]; exact e
theorem Ex.put (hp : p ∈ m) : Ex m H (upd H p o) := fun a u n e => by rw [upd_ne (fun z => n (by rw [z]; exact hp))]; exact e
theorem Ex.get (e : Ex m H H') (n : a ∉ m) (h : H a = some o) : H' a = some o := e a o n h
theorem Ex.get0 (e : Ex [] H H') (h : H a = some o) : H' a = some o := e a o (by simp) h
theorem Ex.rd (e : Ex m H H') (n : a ∉ m) (h : Rd H a u) : Rd H' a u := by
  rcases h with h | ⟨ob, h⟩
  · exact .inl (e a _ n h)
  · exact .inr ⟨ob, e a _ n h⟩
theorem Ex.sqL (e : Ex m H H') (n : a ∉ m) (h : SqL K H a xs) : SqL K H' a xs := by
  rcases h with h | h
  · exact .inl (e.rd n h)
  · exact .inr h
theorem Ex.sqT (e : Ex m H H') (n : a ∉ m) (h : SqT K H a xs) : SqT K H' a xs := by
  rcases h with h | h
  · exact .inl (e.rd n h)
  · exact .inr h
theorem Ex.free (e : Ex [] H H') (h : H' p = none) : H p = none := by
  cases q : H p with
  | none => rfl
  | some o => rw [e p o (by simp) q] at h; cases h
end
def FldG (K : PySem.W.Frag) (f : Str) (x : V) (H : Hp) (Q : VK) : Prop := ∃ a C dx fs v, x = .ref a ∧ H a = some (.ins C dx fs) ∧ Cls K C ∧ NoAttr K C f ∧ fs.lookup f = some v ∧ Q v H
def PropG (C : Addr) (sp : Sp) (dvs : List V) (E : XK) (x : V) (H : Hp) (Q : VK) : Prop := ∃ a dx fs, x = .ref a ∧ H a = some (.ins C dx fs) ∧ sp (.ref a :: dvs) H Q E
def MakeG (C : Addr) (sp : Sp) (dvs : List V) (E : XK) (vs : List V) (H1 : Hp) (Q : VK) : Prop := ∀ x dx, H1 x = none → H1 dx = none → dx ≠ x → sp (.ref x :: (vs ++ dvs)) (upd (upd H1 dx (.own x)) x (.ins C dx [])) (fun v H2 => v = .non ∧ Q (.ref x) H2) E
def MethG (C : Addr) (m : Str) (sp : Sp) (dvs : List V) (E : XK) (t : TA) (σ : St) (x : V) (H1 : Hp) (Q : VK) : Prop := ∃ a dx fs, x = .ref a ∧ H1 a = some (.ins C dx fs) ∧ fs.lookup m = none ∧ t σ H1 fun vs H2 => sp (x :: (vs ++ dvs)) H2 Q E
def RevG (x : V) (H : Hp) (Q : VK) : Prop := ∃ l : List Nat, x = vS l ∧ l.length ≤ sizeLine ∧ Q (vS l.reverse) H
def SetG (K : PySem.W.Frag) (f : Str) (y x : V) (H : Hp) (R : Hp → Prop) : Prop := ∃ a C dx fs, x = .ref a ∧ H a = some (.ins C dx fs) ∧ Cls K C ∧ NoAttr K C f ∧ fs.length < 1000 ∧ R (upd H a (.ins C dx (putF f y fs)))
def Al (o : HO) (n : Nat) (H : Hp) (Q : VK) : Prop := n ≤ sizeLine ∧ ∀ p, H p = none → Q (.ref p) (upd H p o)
section
variable {σ : St} {H : Hp} {Q : VK} {ta tb tc te : TE} {t u : TT} {tr : TA} {v x y : V} {r r' : R2} {i : Nat} {K : PySem.W.Frag} {R : Bool → Hp → Prop} {A B : Prop}
theorem s_var (h : σ[i]? = some (some v)) (k : Q v H) : tVar i σ H Q := ⟨v, h, k⟩
theorem s_c (k : Q v H) : tC v σ H Q := k
theorem s_cS {z : Str} {l : List Nat} (e : z = S l) (k : Q (vS l) H) : tC (.str z) σ H Q := by rw [e]; exact k
theorem s_op (k : ta σ H fun x H1 => tb σ H1 fun y H2 => r x y H2 Q) : tOp r ta tb σ H Q := k
theorem s_un {r : V → Hp → VK → Prop} (k : ta σ H fun x H1 => r x H1 Q) : tUn r ta σ H Q := k
theorem s_cb {r : List V → Hp → VK → Prop} (k : tr σ H fun vs H1 => r vs H1 Q) : tCB r tr σ H Q := k
theorem s_nil {R : List V → Hp → Prop} (k : R [] H) : tNil σ H R := k
theorem s_cons {R : List V → Hp → Prop} (k : ta σ H fun x H1 => tr σ H1 fun xs H2 => R (x :: xs) H2) : tCons ta tr σ H R := k
theorem s_call {sp : Sp} {dvs : List V} {E : XK} (k : tr σ H fun vs H1 => sp (vs ++ dvs) H1 Q E) : tCall sp dvs E tr σ H Q := k
theorem s_tup (k : tr σ H fun xs H1 => Al (.tup xs) xs.length H1 Q) : tTup tr σ H Q := k
theorem s_lst (k : tr σ H fun xs H1 => Al (.lst xs) xs.length H1 Q) : tLst tr σ H Q := k
theorem s_alloc {n : Nat} {o : HO} (h : n ≤ sizeLine) (k : ∀ p H2, H p = none → Ex [] H H2 → H2 p = some o → Q (.ref p) H2) : Al o n H Q :=
  ⟨h, fun p hp => k p _ hp (Ex.new hp) upd_same⟩
theorem s_new {o : HO} (k : ∀ p H2, H p = none → Ex [] H H2 → H2 p = some o → Q (.ref p) H2) : ∀ p, H p = none → Q (.ref p) (upd H p o) :=
  fun p hp => k p _ hp (Ex.new hp) upd_same
theorem s_not (k : t σ H fun c H1 => R (!c) H1) : tNot t σ H R := k
theorem s_and (k : t σ H fun c H1 => if c = true then u σ H1 R else R false H1) : tAnd t u σ H R := k
theorem s_or (k : t σ H fun c H1 => if c = true then R true H1 else u σ H1 R) : tOr t u σ H R := k
theorem s_test (k : te σ H fun x H' => ∃ k, x = .bl k ∧ R k H') : tTest te σ H R := k
theorem s_tB (k : te σ H fun x H' => ∃ k, x = .bl k ∧ R k H') : tB te σ H R := k
theorem s_blQ {b : Bool} {P : Bool → Prop} (k : P b) : ∃ c, V.bl b = .bl c ∧ P c := ⟨b, rfl, k⟩
theorem s_andV (k : ta σ H fun x H1 => ∃ c, x = .bl c ∧ if c = true then tb σ H1 Q else Q (.bl false) H1) : tAndV ta tb σ H Q := k
theorem s_orV (k : ta σ H fun x H1 => ∃ c, x = .bl c ∧ if c = true then Q (.bl true) H1 else tb σ H1 Q) : tOrV ta tb σ H Q := k
theorem s_notV (k : ta σ H fun x H1 => ∃ c, x = .bl c ∧ Q (.bl (!c)) H1) : tNotV ta σ H Q := k
theorem s_ifE (k : t σ H fun c H1 => if c = true then ta σ H1 Q else tb σ H1 Q) : tIf t ta tb σ H Q := k
theorem s_yes (k : R true H) : tYes σ H R := k
theorem s_chain (k : ta σ H fun x H1 => tb σ H1 fun y H2 => r x y H2 fun z H3 => ∃ k, z = .bl k ∧ (if k = true then tc σ H3 fun w' H4 => r' y w' H4 Q else Q (.bl false) H3)) : tChain r r' ta tb tc σ H Q := k
theorem s_T {b : Bool} (h : b = true) (k : A) : if b = true then A else B := by rw [if_pos h]; exact k
theorem s_F {b : Bool} (h : b = false) (k : B) : if b = true then A else B := by rw [if_neg (by rw [h]; decide)]; exact k
theorem s_2 {b : Bool} (k1 : b = true → A) (k2 : b = false → B) : if b = true then A else B := by
  cases b with
  | true => exact s_T rfl (k1 rfl)
  | false => exact s_F rfl (k2 rfl)
theorem s_nT (k : B) : if (!true) = true then A else B := s_F rfl k
theorem s_nF (k : A) : if (!false) = true then A else B := s_T rfl k
theorem s_Td {P : Prop} [Decidable P] (h : P) (k : A) : if decide P = true then A else B := s_T (decide_eq_true h) k
theorem s_Fd {P : Prop} [Decidable P] (h : ¬ P) (k : B) : if decide P = true then A else B := s_F (decide_eq_false h) k
theorem s_nTd {P : Prop} [Decidable P] (h : ¬ P) (k : A) : if (!decide P) = true then A else B := s_T (by rw [decide_eq_false h]; rfl) k
theorem s_nFd {P : Prop} [Decidable P] (h : P) (k : B) : if (!decide P) = true then A else B := s_F (by rw [decide_eq_true h]; rfl) k
theorem s_nB {b : Bool} (h : b = true) (k : B) : if (!b) = true then A else B := s_F (by rw [h]; rfl) k
theorem s_nA {b : Bool} (h : b = false) (k : A) : if (!b) = true then A else B := s_T (by rw [h]; rfl) k
theorem s_addI {i j : Int} (k : Q (.int (i + j)) H) : rAddI (.int i) (.int j) H Q := ⟨i, j, rfl, rfl, k⟩
theorem s_subI {i j : Int} (k : Q (.int (i - j)) H) : rSubI (.int i) (.int j) H Q := ⟨i, j, rfl, rfl, k⟩
theorem s_mulI {i j : Int} (h : CMul i j) (k : Q (.int (i * j)) H) : rMulI (.int i) (.int j) H Q := ⟨i, j, rfl, rfl, h, k⟩
theorem s_divI {i j : Int} (h : CDiv i j) (k : Q (.int (i / j)) H) : rDivI (.int i) (.int j) H Q := ⟨i, j, rfl, rfl, h, k⟩
theorem s_modI {i j : Int} (h : 0 < j) (k : Q (.int (i % j)) H) : rModI (.int i) (.int j) H Q := ⟨i, j, rfl, rfl, h, k⟩
theorem s_powI {i j : Int} (h : CPow i j) (k : Q (.int (i ^ j.toNat)) H) : rPowI (.int i) (.int j) H Q := ⟨i, j, rfl, rfl, h, k⟩
theorem s_ltI {i j : Int} (k : Q (.bl (decide (i < j))) H) : rLtI (.int i) (.int j) H Q := ⟨i, j, rfl, rfl, k⟩
theorem s_leI {i j : Int} (k : Q (.bl (decide (i ≤ j))) H) : rLeI (.int i) (.int j) H Q := ⟨i, j, rfl, rfl, k⟩
theorem s_gtI {i j : Int} (k : Q (.bl (decide (j < i))) H) : rGtI (.int i) (.int j) H Q := ⟨i, j, rfl, rfl, k⟩
theorem s_geI {i j : Int} (k : Q (.bl (decide (j ≤ i))) H) : rGeI (.int i) (.int j) H Q := ⟨i, j, rfl, rfl, k⟩
theorem s_negI {i : Int} (k : Q (.int (-i)) H) : rNegI (.int i) H Q := ⟨i, rfl, k⟩
theorem s_absI {i : Int} (k : Q (.int (if i < 0 then -i else i)) H) : rAbsI [.int i] H Q := ⟨i, rfl, k⟩
theorem s_intI {i : Int} (k : Q (.int i) H) : rIntI [.int i] H Q := .inl ⟨i, rfl, k⟩
theorem s_min2 {i j : Int} (k : Q (.int (if j < i then j else i)) H) : rMin2 [.int i, .int j] H Q := ⟨i, j, rfl, k⟩
theorem s_max2 {i j : Int} (k : Q (.int (if j > i then j else i)) H) : rMax2 [.int i, .int j] H Q := ⟨i, j, rfl, k⟩
theorem s_addS {a b : List Nat} (h : a.length + b.length ≤ sizeLine) (k : Q (vS (a ++ b)) H) : rAddS (vS a) (vS b) H Q := ⟨a, b, rfl, rfl, h, k⟩
theorem s_eqI {i j : Int} (k : Q (.bl (decide (i = j))) H) : rEq (.int i) (.int j) H Q := ⟨rfl, by
  have : decide (V.int i = V.int j) = decide (i = j) := by simp
  rw [this]; exact k⟩
theorem s_neI {i j : Int} (k : Q (.bl (!decide (i = j))) H) : rNe (.int i) (.int j) H Q := ⟨rfl, by
  have : decide (V.int i = V.int j) = decide (i = j) := by simp
  rw [this]; exact k⟩
theorem vS_eq {a b : List Nat} : (vS a = vS b) ↔ a = b := ⟨fun h => S_inj (V.str.inj h), fun h => by rw [h]⟩
theorem s_eqS {a b : List Nat} (k : Q (.bl (decide (a = b))) H) : rEq (vS a) (vS b) H Q := ⟨rfl, by
  have : decide (V.str (S a) = V.str (S b)) = decide (a = b) := by simp only [show (V.str (S a) = V.str (S b)) ↔ a = b from vS_eq]
  rw [this]; exact k⟩
theorem s_neS {a b : List Nat} (k : Q (.bl (!decide (a = b))) H) : rNe (vS a) (vS b) H Q := ⟨rfl, by
  have : decide (V.str (S a) = V.str (S b)) = decide (a = b) := by simp only [show (V.str (S a) = V.str (S b)) ↔ a = b from vS_eq]
  rw [this]; exact k⟩
theorem s_inSg {c : Nat} {l : List Nat} (k : Q (.bl (decide (c ∈ l))) H) : rInSg (vS [c]) (vS l) H Q := ⟨c, S l, rfl, rfl, by rw [S_cps]; exact k⟩
theorem s_notInSg {c : Nat} {l : List Nat} (k : Q (.bl (!decide (c ∈ l))) H) : rNotInSg (vS [c]) (vS l) H Q := ⟨c, S l, rfl, rfl, by rw [S_cps]; exact k⟩
theorem s_lenS {l : List Nat} (h : l.length ≤ sizeLine) (k : Q (.int l.length) H) : rLenV K [vS l] H Q := ⟨vS l, l.length, rfl, ⟨by rw [S_len]; exact h, (S_len l).symm⟩, k⟩
theorem s_lenL {a : Addr} {xs : List V} (h : SqL K H a xs) (k : Q (.int xs.length) H) : rLenV K [.ref a] H Q := ⟨_, _, rfl, .inl ⟨xs, h, rfl⟩, k⟩
theorem s_lenT {a : Addr} {xs : List V} (h : SqT K H a xs) (k : Q (.int xs.length) H) : rLenV K [.ref a] H Q := ⟨_, _, rfl, .inr ⟨xs, h, rfl⟩, k⟩
theorem s_isiII {i : Int} (k : Q (.bl true) H) : rIsi K [.int i, .ty "int"] H Q := ⟨_, _, _, _, _, rfl, .ty _, .base (.int _), kit_ty (by decide +kernel), k⟩
theorem s_isiIB {i : Int} (k : Q (.bl false) H) : rIsi K [.int i, .ty "bool"] H Q := ⟨_, _, _, _, _, rfl, .ty _, .base (.int _), kit_ty (by decide +kernel), k⟩
theorem s_isiSS {z : Str} (k : Q (.bl true) H) : rIsi K [.str z, .ty "str"] H Q := ⟨_, _, _, _, _, rfl, .ty _, .base (.str _), kit_ty (by decide +kernel), k⟩
theorem s_all {a : Addr} {bs : List Bool} (h : SqL K H a (bs.map V.bl)) (k : Q (.bl (bs.all id)) H) : rAll K [.ref a] H Q := ⟨a, bs, rfl, h, k⟩
theorem s_cat {a b : Addr} {xs ys : List V} (h1 : H a = some (.lst xs)) (h2 : H b = some (.lst ys)) (hl : xs.length + ys.length ≤ sizeLine) (k : ∀ p H2, H p = none → Ex [] H H2 → H2 p = some (.lst (xs ++ ys)) → Q (.ref p) H2) : rCat (.ref a) (.ref b) H Q := ⟨a, b, xs, ys, rfl, rfl, h1, h2, hl, s_new k⟩
theorem s_divmod {i j : Int} (h : CDivP i j) (k : ∀ p H2, H p = none → Ex [] H H2 → H2 p = some (.tup [.int (i / j), .int (i % j)]) → Q (.ref p) H2) : rDivmod [.int i, .int j] H Q := ⟨i, j, rfl, h, s_new k⟩
theorem s_ixL {a : Addr} {xs : List V} {n : Int} (h : SqL K H a xs) (hi : atI xs n = some v) (k : Q v H) : rIxL K (.ref a) (.int n) H Q := ⟨a, xs, n, v, rfl, rfl, h, hi, k⟩
theorem s_ixT {a : Addr} {xs : List V} {n : Int} (h : SqT K H a xs) (hi : atI xs n = some v) (k : Q v H) : rIxT K (.ref a) (.int n) H Q := ⟨a, xs, n, v, rfl, rfl, h, hi, k⟩
theorem s_ixS {l : List Nat} {n : Int} {c : Nat} (hl : l.length ≤ sizeLine) (hi : atI l n = some c) (k : Q (vS [c]) H) : rIxS (vS l) (.int n) H Q := ⟨S l, n, c, rfl, rfl, by rw [S_len]; exact hl, by rw [S_cps]; exact hi, k⟩
theorem s_minS {a : Addr} {x : List Nat} {xs : List (List Nat)} (h : SqL K H a ((x :: xs).map vS)) (k : Q (vS (minL x xs)) H) : rMinS K [.ref a] H Q := ⟨a, x, xs, rfl, h, k⟩
theorem s_revS (k : te σ H fun x H1 => RevG x H1 Q) : tRevS te σ H Q := k
theorem s_revS1 {l : List Nat} (h : l.length ≤ sizeLine) (k : Q (vS l.reverse) H) : RevG (vS l) H Q := ⟨l, rfl, h, k⟩
def cut (l : List Nat) (lo hi : Option Int) : List Nat := (l.drop (HT.sIx l.length 0 lo)).take (HT.sIx l.length l.length hi - HT.sIx l.length 0 lo)
theorem s_sl {r : V → Option Int → Option Int → Hp → VK → Prop} {tl th : TO} (k : te σ H fun x H1 => tl σ H1 fun l H2 => th σ H2 fun u H3 => r x l u H3 Q) : tSl r te tl th σ H Q := k
theorem s_noPart {R : Option Int → Hp → Prop} (k : R none H) : tNoPart σ H R := k
theorem s_part {R : Option Int → Hp → Prop} (k : te σ H fun x H1 => ∃ i, x = .int i ∧ R (some i) H1) : tPart te σ H R := k
theorem s_int1 {n : Int} {P : Int → Prop} (k : P n) : ∃ i, V.int n = .int i ∧ P i := ⟨n, rfl, k⟩
theorem s_slS {l : List Nat} {lo hi : Option Int} (h : l.length ≤ sizeLine) (k : Q (vS (cut l lo hi)) H) : rSlS (vS l) lo hi H Q := ⟨S l, rfl, by rw [S_len]; exact h, by
  have e : cutS (S l) lo hi = S (cut l lo hi) := by
    unfold cutS cut
    rw [S_len, S_cps]
    rfl
  rw [e]
  exact k⟩
theorem s_slL {a : Addr} {xs : List V} {lo hi : Option Int} (h : SqL K H a xs) (k : ∀ p H2, H p = none → Ex [] H H2 → H2 p = some (.lst (cutV xs lo hi)) → Q (.ref p) H2) : rSlL K (.ref a) lo hi H Q := ⟨a, xs, rfl, h, s_new k⟩
theorem cut_from {l : List Nat} {n : Int} (h0 : 0 ≤ n) : cut l (some n) none = l.drop n.toNat := by
  unfold cut
  have e : HT.sIx l.length 0 (some n) = min n.toNat l.length := by
    show (if n < 0 then (n + (l.length : Int)).toNat else min n.toNat l.length) = _
    rw [if_neg (by omega)]
  have e2 : HT.sIx l.length l.length none = l.length := rfl
  rw [e, e2]
  rcases Nat.le_total n.toNat l.length with h | h
  · rw [Nat.min_eq_left h, List.take_of_length_le (by simp)]
  · rw [Nat.min_eq_right h, List.drop_of_length_le h]
    simp
theorem cut_to {l : List Nat} {n : Int} (h0 : 0 ≤ n) : cut l none (some n) = l.take n.toNat := by
  unfold cut
  have e : HT.sIx l.length l.length (some n) = min n.toNat l.length := by
    show (if n < 0 then (n + (l.length : Int)).toNat else min n.toNat l.length) = _
    rw [if_neg (by omega)]
  have e2 : HT.sIx l.length 0 none = 0 := rfl
  rw [e, e2]
  rcases Nat.le_total n.toNat l.length with h | h
  · rw [Nat.min_eq_left h]; simp
  · rw [Nat.min_eq_right h, List.take_of_length_le h]; simp
theorem s_M1 {r : V → List V → Hp → VK → Prop} (k : ta σ H fun x H1 => (∃ a, x = .str a) ∧ te σ H1 fun y H2 => r x [y] H2 Q) : tM1 r ta te σ H Q := k
theorem s_isStr {z : Str} {B : Prop} (k : B) : (∃ a, V.str z = .str a) ∧ B := ⟨⟨z, rfl⟩, k⟩
theorem joinL_nil : ∀ ls : List (List Nat), TL.joinL [] ls = ls.flatten
  | [] => rfl
  | [p] => by simp [TL.joinL]
  | p :: q :: r => by
    show p ++ ([] ++ TL.joinL [] (q :: r)) = _
    rw [joinL_nil (q :: r)]
    simp
theorem join_empty (ls : List (List Nat)) : Txt.join (S []) (ls.map S) = S ls.flatten := by
  rw [TL.join_eq, S_of (Str.join (S []) (ls.map S))]
  have := TL.tl_join (S []) (ls.map S)
  unfold TL.tl at this
  rw [this, List.map_map]
  have e : ls.map ((fun x : Str => x.cps.toList) ∘ S) = ls := by
    conv => rhs; rw [← List.map_id ls]
    apply List.map_congr_left
    intro z _
    exact S_cps z
  show S (TL.joinL (S []).cps.toList (ls.map ((fun x : Str => x.cps.toList) ∘ S))) = _
  rw [e, S_cps, joinL_nil]
theorem s_join0 {a : Addr} {ls : List (List Nat)} (h : SqL K H a (ls.map vS)) (hz : ls.flatten.length ≤ 16777216) (k : Q (vS ls.flatten) H) : rJoin K (vS []) [.ref a] H Q := by
  refine ⟨S [], a, ls.map S, rfl, rfl, .inl ?_, ?_, ?_⟩
  · rw [List.map_map]; exact h
  · rw [List.map_map]
    have e1 : (ls.map ((fun x : Str => x.length) ∘ S)) = ls.map List.length := by
      apply List.map_congr_left
      intro z _
      exact S_len z
    rw [e1, S_len]
    simpa using hz
  · rw [join_empty]; exact k
theorem s_fldE {f : Str} (k : ta σ H fun x H1 => FldG K f x H1 Q) : tFld K ta f σ H Q := k
theorem s_propE {C : Addr} {sp : Sp} {dvs : List V} {E : XK} (k : ta σ H fun x H1 => PropG C sp dvs E x H1 Q) : tProp C sp dvs E ta σ H Q := k
theorem s_makeE {C : Addr} {sp : Sp} {dvs : List V} {E : XK} (k : tr σ H fun vs H1 => MakeG C sp dvs E vs H1 Q) : tMake C sp dvs E tr σ H Q := k
theorem s_methE {C : Addr} {m : Str} {sp : Sp} {dvs : List V} {E : XK} (k : ta σ H fun x H1 => MethG C m sp dvs E tr σ x H1 Q) : tMeth C m sp dvs E ta tr σ H Q := k
end
theorem s_setL {a : Addr} {xs : List V} {j : Nat} {v : V} {H : Hp} {R : Hp → Prop} {n : Int} (h : H a = some (.lst xs)) (hj : ixN xs.length n = some j) (k : ∀ H2, Ex [a] H H2 → H2 a = some (.lst (xs.set j v)) → R H2) : rSetL (.ref a) (.int n) v H R := ⟨a, xs, n, j, rfl, rfl, h, hj, k _ (Ex.put (by simp)) upd_same⟩
theorem s_gSub {ta tb : TE} {t : TSet} {v : V} {σ : St} {H : Hp} {R : St → Hp → Prop} (k : ta σ H fun o H1 => tb σ H1 fun i H2 => t o i v H2 fun H3 => R σ H3) : gSub ta tb t v σ H R := k
theorem s_gTup {K : PySem.W.Frag} {a : Addr} {xs : List V} {n : Nat} {t : TGs} {σ : St} {H : Hp} {R : St → Hp → Prop} (h : SqT K H a xs) (hn : xs.length = n) (k : t xs σ H R) : gTup K n t (.ref a) σ H R := ⟨a, xs, rfl, h, hn, k⟩
theorem s_gLst {K : PySem.W.Frag} {a : Addr} {xs : List V} {n : Nat} {t : TGs} {σ : St} {H : Hp} {R : St → Hp → Prop} (h : SqL K H a xs) (hn : xs.length = n) (k : t xs σ H R) : gLst K n t (.ref a) σ H R := ⟨a, xs, rfl, h, hn, k⟩
theorem s_gCons {t : TG} {u : TGs} {v : V} {r : List V} {σ : St} {H : Hp} {R : St → Hp → Prop} (k : t v σ H fun σ' H' => u r σ' H' R) : gCons t u (v :: r) σ H R := ⟨v, r, rfl, k⟩
theorem s_gNil {σ : St} {H : Hp} {R : St → Hp → Prop} (k : R σ H) : gNil [] σ H R := ⟨rfl, k⟩
section
variable {n b c : St → Hp → Prop} {rt : VK} {σ : St} {H : Hp} {te : TE} {tt : TT} {t u : TS} {i : Nat} {K : PySem.W.Frag}
theorem s_seq (k : t ⟨u ⟨n, rt, b, c⟩, rt, b, c⟩ σ H) : tSeq t u ⟨n, rt, b, c⟩ σ H := k
theorem s_sfld {ta tv : TE} {f : Str} (k : tv σ H fun y H1 => ta σ H1 fun x H2 => SetG K f y x H2 (n σ)) : sFld K ta tv f ⟨n, rt, b, c⟩ σ H := k
theorem s_next (k : n σ H) : tNext ⟨n, rt, b, c⟩ σ H := k
theorem s_asg {g : TG} (k : te σ H fun x H1 => g x σ H1 n) : tAsg te g ⟨n, rt, b, c⟩ σ H := k
theorem s_gName {v : V} {R : St → Hp → Prop} (k : R (σ.set i (some v)) H) : gName i v σ H R := k
theorem s_ret (k : te σ H rt) : tRet te ⟨n, rt, b, c⟩ σ H := k
theorem s_drop (k : te σ H fun _ H1 => n σ H1) : tDrop te ⟨n, rt, b, c⟩ σ H := k
theorem s_ifS (k : tt σ H fun q H1 => if q = true then t ⟨n, rt, b, c⟩ σ H1 else u ⟨n, rt, b, c⟩ σ H1) : tIfS tt t u ⟨n, rt, b, c⟩ σ H := k
theorem s_par {i j : Nat} {ta : TA} (k : ta σ H fun vs H1 => ∃ v w, vs = [v, w] ∧ n ((σ.set i (some v)).set j (some w)) H1) : tPar i j ta ⟨n, rt, b, c⟩ σ H := k
theorem s_pair {v w : V} {P : V → V → Prop} (k : P v w) : ∃ v' w', [v, w] = [v', w'] ∧ P v' w' := ⟨v, w, rfl, k⟩
end
end WB
namespace WB
open PySem PySem.Spec PyProof.Rows L2
theorem wipe1 (σ : St) (j : Nat) (x : Option V) : wipe ((wipe σ [j]).set j x) [j] = wipe σ [j] := by
  show ((σ.set j none).set j x).set j none = σ.set j none
  rw [List.set_set, List.set_set]
def LcW (J : It) (g : TG) (tt : TT) (te : TE) (vs : List Nat) (σ : St) (H1 : Hp) (Q : VK) : Prop := ∀ D, H1 D = none → ∃ W : Nat → Nat → Hp → Prop, (∃ m, W 0 m (upd H1 D (.lst []))) ∧ ∀ i m H, W i m H →
  (J.stop i H ∧ Q (.ref D) H) ∨ (J.go i H ∧ ∃ Nx : Hp → Prop, (∀ H', Nx H' → ∃ m', m' < m ∧ W (i + 1) m' H') ∧ ∀ x H', J.yld i H x H' → g x (wipe σ vs) H' fun σ2 H2 => wipe σ2 vs = wipe σ vs ∧ tt σ2 H2 fun b H3 =>
    if b = true then te σ2 H3 fun y H4 => ∃ acc, H4 D = some (.lst acc) ∧ acc.length < sizeLine ∧ Nx (upd H4 D (.lst (acc ++ [y]))) else Nx H3)
theorem s_lc {wi : TI} {g : TG} {tt : TT} {te : TE} {vs : List Nat} {σ : St} {H : Hp} {Q : VK} (k : wi σ H fun J H1 => LcW J g tt te vs σ H1 Q) : tLc wi g tt te vs σ H Q := k
theorem s_rng1 {ta : TA} {σ : St} {H : Hp} {R : It → Hp → Prop} (k : ta σ H fun vs H1 => ∃ j : Int, vs = [.int j] ∧ -(2 ^ 62) ≤ j ∧ j < 2 ^ 62 ∧ R (Itr 0 j.toNat) H1) : iRng1 ta σ H R := k
theorem s_rng1i {j : Int} {C : Int → Prop} (h : -1000000 ≤ j ∧ j ≤ 1000000) (k : C j) : ∃ j' : Int, [V.int j] = [.int j'] ∧ -(2 ^ 62) ≤ j' ∧ j' < 2 ^ 62 ∧ C j' := ⟨j, rfl, by omega, by omega, k⟩
theorem s_rng2 {ta : TA} {σ : St} {H : Hp} {R : It → Hp → Prop} (k : ta σ H fun vs H1 => ∃ i j : Int, vs = [.int i, .int j] ∧ (-(2 ^ 62) ≤ i ∧ i < 2 ^ 62 ∧ -(2 ^ 62) ≤ j ∧ j < 2 ^ 62) ∧ R (Itr i (j - i).toNat) H1) : iRng2 ta σ H R := k
theorem s_rng2i {i j : Int} {C : Int → Int → Prop} (h : -1000000 ≤ i ∧ i ≤ 1000000 ∧ -1000000 ≤ j ∧ j ≤ 1000000) (k : C i j) : ∃ i' j' : Int, [V.int i, V.int j] = [.int i', .int j'] ∧ (-(2 ^ 62) ≤ i' ∧ i' < 2 ^ 62 ∧ -(2 ^ 62) ≤ j' ∧ j' < 2 ^ 62) ∧ C i' j' := ⟨i, j, rfl, by omega, k⟩
theorem s_iStr {te : TE} {σ : St} {H : Hp} {R : It → Hp → Prop} (k : te σ H fun v H1 => ∃ x, v = .str x ∧ R (Its x) H1) : iStr te σ H R := k
theorem s_iStrS {l : List Nat} {C : Str → Prop} (k : C (S l)) : ∃ x, vS l = .str x ∧ C x := ⟨_, rfl, k⟩
theorem s_iList {K : PySem.W.Frag} {te : TE} {σ : St} {H : Hp} {R : It → Hp → Prop} (k : te σ H fun x H1 => ∃ a, x = .ref a ∧ (∃ xs, SqL K H1 a xs) ∧ R (Itl K a) H1) : iList K te σ H R := k
theorem s_iListA {K : PySem.W.Frag} {a : Addr} {xs : List V} {H : Hp} {C : Addr → Prop} (h : SqL K H a xs) (k : C a) : ∃ b, V.ref a = .ref b ∧ (∃ xs, SqL K H b xs) ∧ C b := ⟨a, rfl, ⟨xs, h⟩, k⟩
theorem s_iTup {K : PySem.W.Frag} {te : TE} {σ : St} {H : Hp} {R : It → Hp → Prop} (k : te σ H fun x H1 => ∃ a, x = .ref a ∧ (∃ xs, SqT K H1 a xs) ∧ R (Itt K a) H1) : iTup K te σ H R := k
theorem s_iTupA {K : PySem.W.Frag} {a : Addr} {xs : List V} {H : Hp} {C : Addr → Prop} (h : SqT K H a xs) (k : C a) : ∃ b, V.ref a = .ref b ∧ (∃ xs, SqT K H b xs) ∧ C b := ⟨a, rfl, ⟨xs, h⟩, k⟩
theorem lc_run {J : It} {n : Nat} {G : Hp → Prop} {Y : Nat → Hp → V → Hp → Prop} {g : TG} {tt : TT} {te : TE} {vs : List Nat} {σ : St} {H : Hp} {Q : VK} (w : Walk J n G Y) (hn : n ≤ 100000)
    (m : List Addr) (R : Hp → Prop) (Acc : Nat → List V → Hp → Prop) (hm : ∀ a ∈ m, H a ≠ none) (r0 : R H) (a0 : Acc 0 [] H)
    (rU : ∀ H1 D o, D ∉ m → R H1 → R (upd H1 D o)) (aU : ∀ i acc H1 D o, (H1 D = none ∨ ∃ l, H1 D = some (.lst l)) → Acc i acc H1 → Acc i acc (upd H1 D (.lst o)))
    (hG : ∀ H1, Ex m H H1 → G H1)
    (step : ∀ (i : Nat) (acc : List V) (x : V) (H1 H2 : Hp) (C1 : VK) (C0 : Hp → Prop), i < n → Ex m H H1 → R H1 → Acc i acc H1 → Y i H1 x H2 →
      (∀ y H5, Ex m H1 H5 → R H5 → Acc (i + 1) (acc ++ [y]) H5 → C1 y H5) → (∀ H4, Ex m H1 H4 → R H4 → Acc (i + 1) acc H4 → C0 H4) →
      g x (wipe σ vs) H2 fun σ2 H3 => wipe σ2 vs = wipe σ vs ∧ tt σ2 H3 fun b H4 => if b = true then te σ2 H4 C1 else C0 H4)
    (k : ∀ D H' ys, H D = none → Ex m H H' → R H' → H' D = some (.lst ys) → ys.length ≤ n → Acc n ys H' → Q (.ref D) H') : LcW J g tt te vs σ H Q := by
  intro D hD
  have nD : D ∉ m := fun z => hm D z hD
  refine lc_it w (fun i H1 => Ex m H H1 ∧ R H1 ∧ ∃ acc, H1 D = some (.lst acc) ∧ acc.length ≤ i ∧ Acc i acc H1) ⟨Ex.new hD, rU _ _ _ nD r0, [], upd_same, Nat.le_refl _, aU _ _ _ _ _ (.inl hD) a0⟩ (fun i H1 _ h => hG H1 h.1) ?_ ?_
  · rintro i x H1 H2 hi ⟨e, r, acc, hd, hl, ha⟩ hy
    refine step i acc x H1 H2 _ _ hi e r ha hy (fun y H5 e5 r5 a5 => ?_) (fun H4 e4 r4 a4 => ?_)
    · have hd5 : H5 D = some (.lst acc) := e5 D _ nD hd
      refine ⟨acc, hd5, Nat.lt_of_le_of_lt (Nat.le_trans hl (Nat.le_trans (Nat.le_of_lt hi) hn)) (by decide), ?_, rU _ _ _ nD r5, acc ++ [y], upd_same, by rw [List.length_append]; simp; omega, aU _ _ _ _ _ (.inr ⟨acc, hd5⟩) a5⟩
      intro b o nb hb
      rw [upd_ne (ne_of_none hb hD)]
      exact e5 b o nb (e b o nb hb)
    · exact ⟨e.trans e4, r4, acc, e4 D _ nD hd, by omega, a4⟩
  · rintro H1 ⟨e, r, acc, hd, hl, ha⟩
    exact k D H1 acc hD e r hd hl ha
theorem lc_mapR {n j : Nat} {lo : Int} {te : TE} {σ : St} {H : Hp} {Q : VK} (hn : n ≤ 100000) (val : Nat → V)
    (h : ∀ (i : Nat) (H1 : Hp) (C : VK), i < n → Ex [] H H1 → (∀ H2, Ex [] H1 H2 → C (val i) H2) → te ((wipe σ [j]).set j (some (.int (lo + i)))) H1 C)
    (k : ∀ D H', H D = none → Ex [] H H' → H' D = some (.lst ((List.range n).map val)) → Q (.ref D) H') : LcW (Itr lo n) (gName j) tYes te [j] σ H Q := by
  refine lc_run walk_range hn [] (fun _ => True) (fun i acc _ => acc = (List.range i).map val) (by simp) trivial rfl (fun _ _ _ _ _ => trivial) (fun _ _ _ _ _ _ h => h) (fun _ _ => trivial) ?_ ?_
  · rintro i acc x H1 H2 C1 C0 hi e _ rfl ⟨rfl, rfl⟩ k1 k0
    refine ⟨wipe1 _ _ _, ?_⟩
    refine s_yes ?_
    refine s_T rfl ?_
    refine (h i H2 C1 hi e fun H5 e5 => k1 _ H5 e5 trivial ?_)
    rw [List.range_succ, List.map_append]
    rfl
  · rintro D H' ys hD e _ hd _ rfl
    exact k D H' hD e hd
theorem lc_mapS {l : List Nat} {j : Nat} {tt : TT} {te : TE} {σ : St} {H : Hp} {Q : VK} (hn : l.length ≤ 100000) (p : Nat → Bool) (val : Nat → V)
    (h : ∀ (c : Nat) (H1 : Hp) (C1 : VK) (C0 : Hp → Prop), c ∈ l → Ex [] H H1 → (∀ H2, Ex [] H1 H2 → p c = true → C1 (val c) H2) → (∀ H2, Ex [] H1 H2 → p c = false → C0 H2) →
      tt ((wipe σ [j]).set j (some (vS [c]))) H1 fun b H2 => if b = true then te ((wipe σ [j]).set j (some (vS [c]))) H2 C1 else C0 H2)
    (k : ∀ D H', H D = none → Ex [] H H' → H' D = some (.lst ((l.filter p).map val)) → Q (.ref D) H') : LcW (Its (S l)) (gName j) tt te [j] σ H Q := by
  have hs : (S l).cps.size = l.length := by simp [S]
  have w := walk_str (z := S l)
  rw [hs] at w
  refine lc_run w hn [] (fun _ => True) (fun i acc _ => acc = ((l.take i).filter p).map val) (by simp) trivial (by simp) (fun _ _ _ _ _ => trivial) (fun _ _ _ _ _ _ h => h) (fun _ _ => trivial) ?_ ?_
  · rintro i acc x H1 H2 C1 C0 hi e _ rfl ⟨rfl, c, hc, rfl⟩ k1 k0
    have hc : l[i]? = some c := by simpa [S] using hc
    refine ⟨wipe1 _ _ _, ?_⟩
    refine h c H2 C1 C0 (List.mem_of_getElem? hc) e (fun H5 e5 hp => k1 _ H5 e5 trivial ?_) (fun H5 e5 hp => k0 H5 e5 trivial ?_)
    · rw [List.take_add_one, hc, List.filter_append, List.map_append]
      simp [hp]
    · rw [List.take_add_one, hc, List.filter_append, List.map_append]
      simp [hp]
  · rintro D H' ys hD e _ hd _ rfl
    rw [← hs] at hd
    have : l.take (S l).cps.size = l := by rw [hs]; exact List.take_length
    rw [this] at hd
    exact k D H' hD e hd
def ForW (J : It) (g : TG) (tb : TS) (D : Ends) (σ : St) (H : Hp) : Prop := ∃ W : Nat → Nat → St → Hp → Prop, (∃ m, W 0 m σ H) ∧ ∀ i m σ H, W i m σ H →
  (J.stop i H ∧ D.nx σ H) ∨ (J.go i H ∧ ∃ N : St → Hp → Prop, (∀ σ' H', N σ' H' → ∃ m', m' < m ∧ W (i + 1) m' σ' H') ∧ ∀ x H', J.yld i H x H' → g x σ H' fun σ2 H2 => tb { D with nx := N, ct := N, bk := D.nx } σ2 H2)
theorem s_for {wi : TI} {g : TG} {tb : TS} {n b c : St → Hp → Prop} {rt : VK} {σ : St} {H : Hp} (k : wi σ H fun J H1 => ForW J g tb ⟨n, rt, b, c⟩ σ H1) : tFor wi g tb ⟨n, rt, b, c⟩ σ H := k
theorem for_run {J : It} {m : Nat} {G : Hp → Prop} {Y : Nat → Hp → V → Hp → Prop} {g : TG} {tb : TS} {n b c : St → Hp → Prop} {rt : VK} {σ : St} {H : Hp} (w : Walk J m G Y) (Pv : Nat → St → Hp → Prop) (h0 : Pv 0 σ H) (hG : ∀ i σ H, i ≤ m → Pv i σ H → G H)
    (hs : ∀ i x σ H H', i < m → Pv i σ H → Y i H x H' → g x σ H' fun σ2 H2 => tb ⟨Pv (i + 1), rt, n, Pv (i + 1)⟩ σ2 H2) (hd : ∀ σ H, Pv m σ H → n σ H) : ForW J g tb ⟨n, rt, b, c⟩ σ H :=
  for_it (D := ⟨n, rt, b, c⟩) w Pv h0 hG hs hd
theorem for_rng {lo : Int} {m : Nat} {g : TG} {tb : TS} {n b c : St → Hp → Prop} {rt : VK} {σ : St} {H : Hp} (Pv : Nat → St → Hp → Prop) (h0 : Pv 0 σ H)
    (hs : ∀ (i : Nat) σ H, i < m → Pv i σ H → g (.int (lo + i)) σ H fun σ2 H2 => tb ⟨Pv (i + 1), rt, n, Pv (i + 1)⟩ σ2 H2) (hd : ∀ σ H, Pv m σ H → n σ H) : ForW (Itr lo m) g tb ⟨n, rt, b, c⟩ σ H := by
  refine for_run walk_range Pv h0 (fun _ _ _ _ _ => trivial) ?_ hd
  rintro i x σ H H' hi hp ⟨rfl, rfl⟩
  exact hs i σ _ hi hp
theorem atI_of {α : Type} {xs : List α} {n : Int} {v : α} (h0 : 0 ≤ n) (h : xs[n.toNat]? = some v) : atI xs n = some v := by
  have h1 : n.toNat < xs.length := (List.getElem?_eq_some_iff.mp h).1
  unfold atI ixN
  rw [if_pos h0, if_pos (by omega)]
  exact h
theorem mem_cutV {xs : List V} {lo hi : Option Int} {x : V} (h : x ∈ cutV xs lo hi) : x ∈ xs := List.mem_of_mem_drop (List.mem_of_mem_take h)
end WB
namespace WB
open PySem PySem.Spec PyProof.Rows L2
def rot (l : List Nat) (i : Nat) : List Nat := l.drop i ++ l.take i
def rots (l : List Nat) : List (List Nat) := (List.range l.length).map (rot l)
def leastT (l : List Nat) : List Nat := match rots l with
  | [] => []
  | x :: xs => minL x xs
abbrev LET : List Nat := [97, 98, 99, 100, 101, 102, 103, 104, 105, 106, 107, 108, 109, 110, 111, 112, 113, 114, 115, 116, 117, 118, 119, 120, 121, 122]
theorem lit_abc : ("abcdefghijklmnopqrstuvwxyz" : Str) = S LET := by decide +kernel
theorem lit_empty : ("" : Str) = S [] := by decide +kernel
def isWord (l s : List Nat) : Bool := decide (1 ≤ l.length ∧ l.length ≤ 600) && l.all fun c => decide (c ∈ s)
theorem flat1 : ∀ ls : List Nat, (ls.map fun c => [c]).flatten = ls
  | [] => rfl
  | c :: r => by rw [List.map_cons, List.flatten_cons, flat1 r]; rfl
def KD : List String := ["int", "bool", "str", "NoneType", "list", "tuple", "dict"]
structure RingK (K : PySem.W.Frag) : Prop where
  cl : Cls K (He.ga K "Ring")
  na : NoAttr K (He.ga K "Ring") "least"
  ty : ∀ (H : Hp) (a dx : Addr) (fs : List (Str × V)), H a = some (.ins (He.ga K "Ring") dx fs) → TyX K H (.ref a) (.ref (He.ga K "Ring"))
  me : PySem.W.kitOne K (.ref (He.ga K "Ring")) (.ref (He.ga K "Ring")) = some true
  no : ∀ n ∈ KD, PySem.W.kitOne K (.type n) (.ref (He.ga K "Ring")) = some false
def RingAt (K : PySem.W.Frag) (H : Hp) (a : Addr) (l : List Nat) : Prop := ∃ dx, H a = some (.ins (He.ga K "Ring") dx [("least", vS l)])
theorem RingAt.ex' {K : PySem.W.Frag} {H H' : Hp} {a : Addr} {l : List Nat} {m : List Addr} (h : RingAt K H a l) (e : Ex m H H') (n : a ∉ m) : RingAt K H' a l := by
  obtain ⟨dx, h⟩ := h
  exact ⟨dx, e a _ n h⟩
theorem RingAt.ex {K : PySem.W.Frag} {H H' : Hp} {a : Addr} {l : List Nat} {m : List Addr} (e : Ex m H H') (n : a ∉ m) (h : RingAt K H a l) : RingAt K H' a l := by
  obtain ⟨dx, h⟩ := h
  exact ⟨dx, e a _ n h⟩
def RingOf (K : PySem.W.Frag) (x y : V) (H : Hp) : Prop := ∃ w a, x = vS w ∧ y = .ref a ∧ RingAt K H a (leastT w)
theorem RingOf.ex {K : PySem.W.Frag} {x y : V} {H H' : Hp} (e : Ex [] H H') (h : RingOf K x y H) : RingOf K x y H' := by
  obtain ⟨w, a, h1, h2, h3⟩ := h
  exact ⟨w, a, h1, h2, h3.ex' e (by simp)⟩
theorem RingAt.uniq {K : PySem.W.Frag} {H : Hp} {a : Addr} {l m : List Nat} (h : RingAt K H a l) (h2 : RingAt K H a m) : l = m := by
  obtain ⟨dx, h⟩ := h
  obtain ⟨dy, h2⟩ := h2
  rw [h] at h2
  have e := Option.some.inj h2
  injection e with _ _ e
  injection e with e _
  injection e with _ e
  exact vS_eq.mp e
def TextOf (K : PySem.W.Frag) (x y : V) (H : Hp) : Prop := ∃ a l, x = .ref a ∧ y = vS l ∧ RingAt K H a l
theorem TextOf.ex {K : PySem.W.Frag} {x y : V} {H H' : Hp} (e : Ex [] H H') (h : TextOf K x y H) : TextOf K x y H' := by
  obtain ⟨w, a, h1, h2, h3⟩ := h
  exact ⟨w, a, h1, h2, h3.ex' e (by simp)⟩
def Kd (K : PySem.W.Frag) (H : Hp) (v : V) (n : String) : Prop := TyX K H v (.type n) ∧ n ∈ KD
def sp_is_integer (K : PySem.W.Frag) : Sp := fun vs H Q _ => ∃ (v : V) (n : String), vs = [v] ∧ Kd K H v n ∧ Q (.bl (decide (n = "int"))) H
def sp_is_word (K : PySem.W.Frag) : Sp := fun vs H Q _ => ∃ (v : V) (s : List Nat), vs = [v, vS s] ∧ ((∃ l : List Nat, v = vS l ∧ l.length ≤ 10000 ∧ ∀ H', Ex [] H H' → Q (.bl (isWord l s)) H') ∨ (∃ n, Kd K H v n ∧ n ≠ "str" ∧ Q (.bl false) H))
def sp_least_turning (K : PySem.W.Frag) : Sp := fun vs H Q _ => ∃ l : List Nat, vs = [vS l] ∧ l ≠ [] ∧ l.length ≤ 10000 ∧ ∀ H', Ex [] H H' → Q (vS (leastT l)) H'
def sp_Ring_init (K : PySem.W.Frag) : Sp := fun vs H Q _ => ∃ (x dx : Addr) (l : List Nat), vs = [.ref x, vS l] ∧ isWord l LET = true ∧ H x = some (.ins (He.ga K "Ring") dx []) ∧
  ∀ H', Ex [x] H H' → H' x = some (.ins (He.ga K "Ring") dx [("least", vS (leastT l))]) → Q .non H'
def sp_Ring_text (K : PySem.W.Frag) : Sp := fun vs H Q _ => ∃ (a : Addr) (l : List Nat), vs = [.ref a] ∧ RingAt K H a l ∧ Q (vS l) H
def sp_Ring_str (K : PySem.W.Frag) : Sp := fun vs H Q _ => ∃ (a : Addr) (l : List Nat), vs = [.ref a] ∧ RingAt K H a l ∧ Q (vS l) H
def sp_Ring_eq (K : PySem.W.Frag) : Sp := fun vs H Q _ => ∃ (a : Addr) (v : V), vs = [.ref a, v] ∧ ∃ l, RingAt K H a l ∧ ((∃ b m, v = .ref b ∧ RingAt K H b m ∧ Q (.bl (decide (l = m))) H) ∨ (∃ n, Kd K H v n ∧ Q (.bl false) H))
def NewRing (K : PySem.W.Frag) (H : Hp) (Q : VK) (l : List Nat) : Prop := ∀ x H', H x = none → Ex [] H H' → RingAt K H' x (leastT l) → Q (.ref x) H'
def PoolAt (H : Hp) (a : Addr) : Prop := ∃ x y z : Int, H a = some (.lst [.int x, .int y, .int z])
def sp_law_cell (K : PySem.W.Frag) : Sp := fun vs H Q _ => ∃ (a : Addr) (ns : List Int) (k : Int), vs = [.ref a, .int k] ∧ SqL K H a (ns.map V.int) ∧ ns.length ≤ 63 ∧ 0 ≤ k ∧ k < 1000 ∧ ∀ c H', Ex [] H H' → Q (.int c) H'
def sp_law_pool (K : PySem.W.Frag) : Sp := fun vs H Q _ => ∃ c : Int, vs = [.int c] ∧ ∀ p H', H p = none → Ex [] H H' → PoolAt H' p → Q (.ref p) H'
def sp_law_draw (K : PySem.W.Frag) : Sp := fun vs H Q _ => ∃ (a : Addr) (m : Int), vs = [.ref a, .int m] ∧ 0 < m ∧ m < 1000000 ∧ PoolAt H a ∧ ∀ (r : Int) (H' : Hp), 0 ≤ r → r < m → Ex [a] H H' → PoolAt H' a → Q (.int r) H'
def sp_law_signs (K : PySem.W.Frag) : Sp := fun vs H Q _ => ∃ (a : Addr) (m : Int), vs = [.ref a, .int m] ∧ 0 < m ∧ m ≤ 4 ∧ PoolAt H a ∧
  ∀ (l : List Nat) (H' : Hp), l ≠ [] → (l.length : Int) ≤ m → (∀ c ∈ l, c ∈ LET) → l.Nodup → Ex [a] H H' → PoolAt H' a → Q (vS l) H'
def sp_law_turnings (K : PySem.W.Frag) : Sp := fun vs H Q _ => ∃ l : List Nat, vs = [vS l] ∧ l.length ≤ 10000 ∧ ∀ p H', H p = none → Ex [] H H' → H' p = some (.lst ((rots l).map vS)) → Q (.ref p) H'
theorem PoolAt.ex {H H' : Hp} {a : Addr} {m : List Addr} (e : Ex m H H') (n : a ∉ m) (h : PoolAt H a) : PoolAt H' a := by
  obtain ⟨x, y, z, h⟩ := h
  exact ⟨x, y, z, e a _ n h⟩
theorem PoolAt.there {H : Hp} {a : Addr} (h : PoolAt H a) : H a ≠ none := by
  obtain ⟨x, y, z, h⟩ := h
  rw [h]
  simp
theorem PoolAt.upd {H : Hp} {a D : Addr} {o : HO} (h : PoolAt H a) (n : D ∉ [a]) : PoolAt (L2.upd H D o) a := by
  obtain ⟨x, y, z, h⟩ := h
  exact ⟨x, y, z, by rw [upd_ne (fun e => n (by rw [e]; simp))]; exact h⟩
section
variable {K : PySem.W.Frag} {H : Hp} {Q : VK} {E : XK}
theorem u_draw {a : Addr} {m : Int} (h0 : 0 < m) (h1 : m < 1000000) (hp : PoolAt H a) (k : ∀ (r : Int) (H' : Hp), 0 ≤ r → r < m → Ex [a] H H' → PoolAt H' a → Q (.int r) H') : sp_law_draw K ([.ref a, .int m] ++ []) H Q E := ⟨a, m, rfl, h0, h1, hp, k⟩
theorem u_pool {c : Int} (k : ∀ p H', H p = none → Ex [] H H' → PoolAt H' p → Q (.ref p) H') : sp_law_pool K ([.int c] ++ []) H Q E := ⟨c, rfl, k⟩
theorem u_cell {a : Addr} {n : Int} {ns : List Int} (hs : SqL K H a (ns.map V.int)) (hl : ns.length ≤ 63) (h0 : 0 ≤ n) (h1 : n < 1000) (k : ∀ c H', Ex [] H H' → Q (.int c) H') : sp_law_cell K ([.ref a, .int n] ++ []) H Q E := ⟨a, ns, n, rfl, hs, hl, h0, h1, k⟩
theorem u_signs {a : Addr} {m : Int} (h0 : 0 < m) (h1 : m ≤ 4) (hp : PoolAt H a) (k : ∀ (l : List Nat) (H' : Hp), l ≠ [] → (l.length : Int) ≤ m → (∀ c ∈ l, c ∈ LET) → l.Nodup → Ex [a] H H' → PoolAt H' a → Q (vS l) H') : sp_law_signs K ([.ref a, .int m] ++ []) H Q E := ⟨a, m, rfl, h0, h1, hp, k⟩
theorem u_turnings {l : List Nat} (hl : l.length ≤ 10000) (k : ∀ p H', H p = none → Ex [] H H' → H' p = some (.lst ((rots l).map vS)) → Q (.ref p) H') : sp_law_turnings K ([vS l] ++ []) H Q E := ⟨l, rfl, hl, k⟩
theorem Kd.int {i : Int} : Kd K H (.int i) "int" := ⟨.base (.int i), by decide +kernel⟩
theorem Kd.bl {b : Bool} : Kd K H (.bl b) "bool" := ⟨.base (.bl b), by decide +kernel⟩
theorem Kd.non : Kd K H .non "NoneType" := ⟨.base .non, by decide +kernel⟩
theorem Kd.str {l : List Nat} : Kd K H (vS l) "str" := ⟨.base (.str (S l)), by decide +kernel⟩
theorem Kd.tup {a : Addr} {xs : List V} (h : SqT K H a xs) : Kd K H (.ref a) "tuple" := by
  refine ⟨?_, by decide +kernel⟩
  rcases h with (h | ⟨o, h⟩) | ⟨o, its, n, h1, h2, _⟩
  · exact .base (.tup h)
  · exact .fTuple h
  · exact .kTuple h1 h2
theorem Kd.lst {a : Addr} {xs : List V} (h : H a = some (.lst xs)) : Kd K H (.ref a) "list" := ⟨.base (.lst h), by decide +kernel⟩
theorem u_is_integer {i : Int} (k : Q (.bl true) H) : sp_is_integer K ([.int i] ++ []) H Q E := ⟨.int i, "int", rfl, Kd.int, k⟩
theorem kitB_str {n : String} (h : n ∈ KD) (hn : n ≠ "str") : kitB n "str" = some false := by
  simp only [KD, List.mem_cons, List.not_mem_nil, or_false] at h
  rcases h with rfl | rfl | rfl | rfl | rfl | rfl | rfl
  all_goals first | exact absurd rfl hn | decide +kernel
theorem s_isiK {v : V} {n m : String} {b : Bool} (h : Kd K H v n) (hb : kitB n m = some b) (k : Q (.bl b) H) : rIsi K [v, .ty m] H Q := ⟨_, _, _, _, _, rfl, .ty _, h.1, kit_ty hb, k⟩
theorem u_is_word {l s : List Nat} (hl : l.length ≤ 10000) (k : ∀ H', Ex [] H H' → Q (.bl (isWord l s)) H') : sp_is_word K ([vS l] ++ [vS s]) H Q E := ⟨_, _, rfl, .inl ⟨l, rfl, hl, k⟩⟩
theorem u_least_turning {l : List Nat} (h0 : l ≠ []) (hl : l.length ≤ 10000) (k : ∀ H', Ex [] H H' → Q (vS (leastT l)) H') : sp_least_turning K ([vS l] ++ []) H Q E := ⟨l, rfl, h0, hl, k⟩
theorem u_fldRing {a : Addr} {l : List Nat} (F : RingK K) (h : RingAt K H a l) (k : Q (vS l) H) : FldG K "least" (.ref a) H Q := by
  obtain ⟨dx, h⟩ := h
  exact ⟨a, _, dx, _, _, rfl, h, F.cl, F.na, rfl, k⟩
theorem u_setRing {x dx : Addr} {y : V} {R : Hp → Prop} (F : RingK K) (h : H x = some (.ins (He.ga K "Ring") dx [])) (k : ∀ H2, Ex [x] H H2 → H2 x = some (.ins (He.ga K "Ring") dx [("least", y)]) → R H2) : SetG K "least" y (.ref x) H R :=
  ⟨x, _, dx, [], rfl, h, F.cl, F.na, by simp, k _ (Ex.put (by simp)) upd_same⟩
theorem u_textP {a : Addr} {l : List Nat} (h : RingAt K H a l) (k : Q (vS l) H) : PropG (He.ga K "Ring") (sp_Ring_text K) [] E (.ref a) H Q := by
  obtain ⟨dx, h'⟩ := id h
  exact ⟨a, dx, _, rfl, h', a, l, rfl, h, k⟩
theorem u_strRing {a : Addr} {l : List Nat} (h : RingAt K H a l) (k : Q (vS l) H) : rStrO (He.ga K "Ring") (sp_Ring_str K) E [.ref a] H Q := by
  obtain ⟨dx, h'⟩ := id h
  exact ⟨a, dx, _, rfl, h', a, l, rfl, h, _, rfl, k⟩
theorem u_eqRing {a b : Addr} {l m : List Nat} (h : RingAt K H a l) (h2 : RingAt K H b m) (k : Q (.bl (decide (l = m))) H) : rEqO (He.ga K "Ring") (sp_Ring_eq K) E (.ref a) (.ref b) H Q := by
  obtain ⟨dx, h'⟩ := id h
  obtain ⟨dy, h2'⟩ := id h2
  exact ⟨a, dx, _, b, dy, _, rfl, rfl, h', h2', a, _, rfl, l, h, .inl ⟨b, m, rfl, h2, _, rfl, k⟩⟩
theorem u_isiRing {a : Addr} {l : List Nat} (F : RingK K) (h : RingAt K H a l) (k : Q (.bl true) H) : rIsi K [.ref a, .ref (He.ga K "Ring")] H Q := by
  obtain ⟨dx, h'⟩ := id h
  exact ⟨_, _, _, _, _, rfl, .own _, F.ty _ _ _ _ h', F.me, k⟩
theorem u_makeRing {l : List Nat} (hw : isWord l LET = true) (k : NewRing K H Q l) : MakeG (He.ga K "Ring") (sp_Ring_init K) [] E [vS l] H Q := by
  intro x dx hx hdx ne
  refine ⟨x, dx, l, rfl, hw, upd_same, fun H' e h => ⟨rfl, k x H' hx ?_ ⟨dx, h⟩⟩⟩
  intro b o _ hb
  have nb : b ≠ x := ne_of_none hb hx
  refine e b o (by simpa using nb) ?_
  rw [upd_ne nb, upd_ne (ne_of_none hb hdx)]
  exact hb
theorem isWord_len {l s : List Nat} (h : isWord l s = true) : 1 ≤ l.length ∧ l.length ≤ 600 := of_decide_eq_true (Bool.and_eq_true_iff.mp h).1
theorem isWord_in {l s : List Nat} (h : isWord l s = true) : ∀ c ∈ l, c ∈ s := fun c hc => of_decide_eq_true (List.all_eq_true.mp (Bool.and_eq_true_iff.mp h).2 c hc)
theorem isWord_mk {l s : List Nat} (h1 : 1 ≤ l.length) (h2 : l.length ≤ 600) (h3 : ∀ c ∈ l, c ∈ s) : isWord l s = true := Bool.and_eq_true_iff.mpr ⟨decide_eq_true ⟨h1, h2⟩, List.all_eq_true.mpr fun c hc => decide_eq_true (h3 c hc)⟩
end
end WB
namespace WB
open PySem PySem.Spec PyProof.Rows L2
def dS (l : List Nat) : PyData := .str (S l)
def plain (l : List Nat) : Prop := ∀ c ∈ l, c < 55296
theorem strOk_S {l : List Nat} (h : plain l) : PyData.strOk (S l) = true := by
  unfold PyData.strOk
  rw [← Array.all_toList, S_cps, List.all_eq_true]
  intro c hc
  have := h c hc
  exact decide_eq_true (by omega)
theorem canLay_strs : ∀ {ls : List (List Nat)}, (∀ l ∈ ls, plain l) → PyData.canLayAll0 (ls.map dS) = true
  | [], _ => by simp [PyData.canLayAll0]
  | l :: ls, h => by
    rw [List.map_cons, PyData.canLayAll0]
    refine Bool.and_eq_true_iff.mpr ⟨?_, canLay_strs fun l hl => h l (List.mem_cons_of_mem _ hl)⟩
    unfold dS
    rw [PyData.canLay0]
    exact strOk_S (h l List.mem_cons_self)
theorem depth_strs : ∀ ls : List (List Nat), PyData.depthAll (ls.map dS) = 0
  | [] => by simp [PyData.depthAll]
  | l :: ls => by
    rw [List.map_cons, PyData.depthAll, depth_strs ls]
    simp [dS, PyData.depth]
theorem shaped_strs {ls : List (List Nat)} (h : ∀ l ∈ ls, plain l) : SeqAt.shaped (.list (ls.map dS)) = true := by
  unfold SeqAt.shaped
  refine Bool.and_eq_true_iff.mpr ⟨?_, decide_eq_true ?_⟩
  · rw [PyData.canLay0]; exact canLay_strs h
  · rw [PyData.depth, depth_strs]; omega
theorem eqv_strs : ∀ ls ms : List (List Nat), PyData.eqvAll (ls.map dS) (ms.map dS) = decide (ls = ms)
  | [], [] => by simp [PyData.eqvAll]
  | [], m :: ms => by simp [PyData.eqvAll]
  | l :: ls, [] => by simp [PyData.eqvAll]
  | l :: ls, m :: ms => by
    rw [List.map_cons, List.map_cons, PyData.eqvAll, eqv_strs ls ms]
    have : PyData.eqv (dS l) (dS m) = decide (l = m) := by
      unfold dS
      rw [PyData.eqv]
      by_cases e : l = m
      · subst e; simp
      · rw [decide_eq_false e]
        exact beq_eq_false_iff_ne.mpr fun z => e (S_inj z)
    rw [this]
    by_cases e : l = m <;> by_cases e2 : ls = ms <;> simp [e, e2]
theorem dp_strs {K : PySem.W.Frag} {H : Hp} : ∀ ls : List (List Nat), DpAll K H (ls.map vS) (ls.map dS)
  | [] => .nil
  | l :: ls => .cons (.str _) (dp_strs ls)
end WB
namespace WB
open PySem PySem.Spec PyProof.Rows L2
def rListS : List V → Hp → VK → Prop := fun xs H Q => ∃ l : List Nat, xs = [vS l] ∧ l.length ≤ sizeLine ∧ ∀ p H2, H p = none → Ex [] H H2 → H2 p = some (.lst (l.map fun c => vS [c])) → Q (.ref p) H2
theorem call_listS {X : Cx} (hc : X.calm = true) : CallR X (.type "list") rListS := by
  intro pins s σ H xs us Q I r h
  obtain ⟨l, rfl, hz, q⟩ := h
  obtain ⟨u, rfl, t, rfl⟩ := vals1 r
  have hs : (S l).cps.size = l.length := by simp [S]
  refine PySem.call_list_str (I.ok.hd hc) (S l) t (fun h' tk acc' c' hkeep hS hacc => ?_) (by rw [hs]; exact hz)
  refine ⟨.ref s.heap.objs.size, upd H s.heap.objs.size (.lst (l.map fun c => vS [c])), I.laid hkeep (Nat.le_refl _) (show ObjOk X.prog X.w _ _ _ (.lst (l.map fun c => vS [c])) from ⟨?_, acc'.toList, c', ?_, ?_⟩), rfl, q _ _ (I.hok.fresh (Nat.le_refl _)) (Ex.new (I.hok.fresh (Nat.le_refl _))) upd_same⟩
  · rw [List.length_map]; exact hz
  · have el : acc'.toList.length = acc'.size := by simp
    refine vals_of_at (by rw [List.length_map, el, hacc.1, hs]) fun j x w h1 h2 => ?_
    obtain ⟨c, u, hcu, rfl⟩ := hacc.2 j w (by rw [← Array.getElem?_toList]; exact h2)
    have hcu : l[j]? = some c := by simpa [S] using hcu
    rw [List.getElem?_map, hcu] at h1
    cases h1
    exact ⟨u, rfl⟩
  · rw [Array.toArray_toList]; exact hS
end WB
namespace WB
open PySem PySem.Spec PyProof.Rows L2
section
variable {K : PySem.W.Frag} {H : Hp} {Q : VK}
def rInStr : R2 := fun x y H Q => ∃ i j, x = .str i ∧ y = .str j ∧ Q (.bl (!(Builtin.Str.occurrences j i 0 j.length 1).isEmpty)) H
def occ (l m : List Nat) : Bool := decide (∃ i, i ≤ m.length ∧ (m.drop i).take l.length = l)
theorem occ_of {l m : List Nat} : (!(Builtin.Str.occurrences (S m) (S l) 0 (S m).length 1).isEmpty) = occ l m := by
  rw [Bool.eq_iff_iff, PySem.StrLaws.found_iff]
  unfold occ
  rw [decide_eq_true_iff]
  have hx : ∀ i, (i + (S l).length ≤ (S m).length ∧ Builtin.Str.subAt (S m) (S l) i = true) ↔ (i ≤ m.length ∧ (m.drop i).take l.length = l) := by
    intro i
    rw [S_len, S_len]
    unfold Builtin.Str.subAt
    rw [beq_iff_eq, ← Array.toList_inj, S_len]
    have e1 : ((S m).cps.extract i (i + l.length)).toList = (m.drop i).take l.length := by
      rw [Array.toList_extract, S_cps]
      simp [List.extract]
    rw [e1, S_cps]
    constructor
    · rintro ⟨h1, h2⟩
      exact ⟨by omega, h2⟩
    · rintro ⟨h1, h2⟩
      refine ⟨?_, h2⟩
      have := congrArg List.length h2
      rw [List.length_take, List.length_drop] at this
      omega
  constructor
  · rintro ⟨i, h⟩; exact ⟨i, (hx i).mp h⟩
  · rintro ⟨i, h⟩; exact ⟨i, (hx i).mpr h⟩
theorem s_inStr {l m : List Nat} (k : Q (.bl (occ l m)) H) : rInStr (vS l) (vS m) H Q := ⟨_, _, rfl, rfl, by rw [occ_of]; exact k⟩
theorem s_append {a : Addr} {xs : List V} {y : V} (h : H a = some (.lst xs)) (hz : xs.length < sizeLine) (k : ∀ H2, Ex [a] H H2 → H2 a = some (.lst (xs ++ [y])) → Q .non H2) : rAppend (.ref a) [y] H Q := ⟨a, xs, y, rfl, rfl, h, hz, k _ (Ex.put (by simp)) upd_same⟩
theorem s_popAt {a : Addr} {xs : List V} {i : Nat} {n : Int} {y : V} (h : H a = some (.lst xs)) (hn : n = i) (h0 : i < 1000000) (hy : xs[i]? = some y) (k : ∀ H2, Ex [a] H H2 → H2 a = some (.lst (xs.eraseIdx i)) → Q y H2) : rPopAt (.ref a) [.int n] H Q := by
  have hi : i < xs.length := (List.getElem?_eq_some_iff.mp hy).1
  refine ⟨a, xs, n, i, y, rfl, rfl, h, by omega, by omega, ?_, hy, k _ (Ex.put (by simp)) upd_same⟩
  subst hn
  unfold seqIndex?
  have e1 : ¬ (i : Int) < 0 := by omega
  have e2 : (0 ≤ (i : Int) && decide ((i : Int) < (xs.length : Int))) = true := by simp; omega
  simp only [e1, if_false]
  rw [if_pos (by simpa using hi)]
  rfl
theorem s_bm {te : TE} {ta : TA} {T : String} {r : V → List V → Hp → VK → Prop} {σ : L2.St} (k : te σ H fun x H1 => tyV K T x H1 ∧ ta σ H1 fun xs H2 => r x xs H2 Q) : tBM K T r te ta σ H Q := k
theorem s_tyL {a : Addr} {xs : List V} {B : Prop} (h : H a = some (.lst xs)) (k : B) : tyV K "list" (.ref a) H ∧ B := ⟨.inl ⟨rfl, xs, SqL.of h⟩, k⟩
end
end WB
namespace WB
open PySem PySem.Spec PyProof.Rows L2
abbrev Fr' := PySem.W.Frag
abbrev Fx := PySem.W.Frag → Bool
def obsW (fa : List He.Fa) (fn : List He5.DefA) (ex : List Fx) (K : Fr') : He.AlD := ((fa.all fun f => f.ok K) && (ex.all (fun f => f K) && fn.all fun d => d.ok K), fn.map fun d => He5.fnA K (d.at_ K))
def SaysW (fa : List He.Fa) (fn : List He5.DefA) (ex : List Fx) (K : Fr') : Prop := obsW fa fn ex K = He5.valA fn
def frN {α : Type} (n : Nat) (k : Nat → α) : α := Nat.rec (k 0) (fun m _ => k (m + 1)) n
def addB {α : Type} : List Addr → Nat → List Addr → (Nat → List Addr → α) → α
  | [], seen, new, k => k seen new
  | a :: r, seen, new, k => match Nat.beq (Nat.land (Nat.shiftRight seen a) 1) 1 with
    | true => addB r seen new k
    | false => frN (Nat.lor seen (Nat.shiftLeft 1 a)) fun seen' => addB r seen' (a :: new) k
def bfsB (g : Addr → Option Obj) : Nat → Nat → List Addr → List Addr → List Addr
  | 0, _, _, acc => acc
  | n + 1, seen, front, acc => addB (front.flatMap fun a => match g a with
    | some o => He.refsD o
    | none => []) seen [] fun seen' new => bfsB g n seen' new (new ++ acc)
def asB (g : Addr → Option Obj) (n : Nat) : List Addr := bfsB g n (Nat.shiftLeft 1 mainGlobals) [mainGlobals] [mainGlobals] ++ [cStatics]
def fdOf (K : Fr') (f : Addr) : FuncData := match K.lookup f with
  | some ⟨_, _, .func fd, _⟩ => fd
  | _ => PySem.W.fnOf "" "" { posonlyargs := [], args := [], vararg := none, kwonlyargs := [], kw_defaults := [], kwarg := none, defaults := [] } [] { kind := .function, names := [], isGenerator := false, isCoroutine := false } .none .none .none .none none .none .none
section
variable {fa : List He.Fa} {fn : List He5.DefA} {ex : List Fx} {K : Fr'}
theorem SaysW.b (c : SaysW fa fn ex K) : (fa.all fun f => f.ok K) = true ∧ ex.all (fun f => f K) = true ∧ (fn.all fun d => d.ok K) = true := by
  have h := congrArg (fun z : He.AlD => z.1) c
  obtain ⟨h1, h2⟩ := He.ba (show ((fa.all fun f => f.ok K) && (ex.all (fun f => f K) && fn.all fun d => d.ok K)) = true from h)
  obtain ⟨h2, h3⟩ := He.ba h2
  exact ⟨h1, h2, h3⟩
theorem SaysW.fact (c : SaysW fa fn ex K) (i : Nat) {f : He.Fa} (h : fa[i]? = some f := by rfl) : f.ok K = true := List.all_eq_true.mp c.b.1 f (List.mem_of_getElem? h)
theorem SaysW.more (c : SaysW fa fn ex K) (i : Nat) {f : Fx} (h : ex[i]? = some f := by rfl) : f K = true := List.all_eq_true.mp c.b.2.1 f (List.mem_of_getElem? h)
theorem SaysW.def_ (c : SaysW fa fn ex K) (i : Nat) {d : He5.DefA} (h : fn[i]? = some d := by rfl) : FunD K d.name d.qual d.params d.body d.scope (d.dvs K) (d.kws K) (d.at_ K) (fdOf K (d.at_ K)) := by
  have e : fn.map (fun d => He5.fnA K (d.at_ K)) = fn.map He5.DefA.val := congrArg (fun z : He.AlD => z.2) c
  have e2 : (fn.map fun d => He5.fnA K (d.at_ K))[i]? = (fn.map He5.DefA.val)[i]? := by rw [e]
  rw [List.getElem?_map, List.getElem?_map, h] at e2
  obtain ⟨fd, F⟩ := He5.DefA.funD (Option.some.inj e2) (List.all_eq_true.mp c.b.2.2 d (List.mem_of_getElem? h))
  obtain ⟨oc, od, dV, kV, doc, pm, an, cdv, ct, osl, e3, lk, r⟩ := F.ex
  have : fdOf K (d.at_ K) = fd := by
    unfold fdOf
    rw [lk]
  rw [this]
  exact F
end
def specB (x m : Str) : Fx := fun K => He.eqO (PySem.W.findIn K (.ref (He.ga K x)) m) (some (some (.ref (He.ma K (He.ga K x) m)))) && PySem.W.isFn K (.ref (He.ma K (He.ga K x) m))
theorem specB_ok {K : Fr'} {x m : Str} (h : specB x m K = true) : Spec1 K (He.ga K x) m (He.ma K (He.ga K x) m) := by
  obtain ⟨h1, h2⟩ := He.ba h
  exact ⟨He.eqO_ok h1, h2⟩
def propB (x f : Str) : Fx := fun K => He.eqO (PySem.W.findIn K (.ref (He.ga K x)) f) (some (some (.ref (He.ma K (He.ga K x) f)))) && (decide (PySem.W.specialIn K (.ref (He.ma K (He.ga K x) f)) "__get__" = some (some (.builtin "property.__get__"))) && (decide (PySem.W.takesIn K (.ref (He.ma K (He.ga K x) f)) = some true) && (match PySem.W.recIn K (He.ma K (He.ga K x) f) "property" with
  | some (.ref _ :: _) => true
  | _ => false)))
theorem propB_ok {K : Fr'} {x f : Str} (h : propB x f K = true) : PropOf K (He.ga K x) f (He.ma K (He.ga K x) f) (He5.wf K (He.ga K x) "property" f) := by
  obtain ⟨h1, h⟩ := He.ba h
  obtain ⟨h2, h⟩ := He.ba h
  obtain ⟨h3, h4⟩ := He.ba h
  refine ⟨He.eqO_ok h1, of_decide_eq_true h2, of_decide_eq_true h3, ?_⟩
  unfold He5.wf
  split at h4
  · rename_i f r e
    exact ⟨r, by rw [e]⟩
  · cases h4
def selfB (x : Str) : Fx := fun K => PySem.W.selfFirst K (He.ga K x)
def binB (x : Str) (nm T : String) : Fx := fun K => specB x (PySem.dunder nm) K && (selfB x K && (He.eqO (PySem.W.findIn K (.ref (He.ga K x)) (dunderR nm)) (some none) && ((PySem.W.findIn K (.type T) (PySem.dunder nm)).isSome && ((PySem.W.findIn K (.type T) (dunderR nm)).isSome && decide (PySem.W.subIn K (.type T) (.ref (He.ga K x)) = some false)))))
theorem binB_ok {K : Fr'} {x : Str} {nm T : String} (h : binB x nm T K = true) : BinT K (He.ga K x) nm T (He.ma K (He.ga K x) (PySem.dunder nm)) := by
  obtain ⟨h1, h⟩ := He.ba h
  obtain ⟨h2, h⟩ := He.ba h
  obtain ⟨h3, h⟩ := He.ba h
  obtain ⟨h4, h⟩ := He.ba h
  obtain ⟨h5, h6⟩ := He.ba h
  exact ⟨specB_ok h1, h2, He.eqO_ok h3, Option.isSome_iff_exists.mp h4, Option.isSome_iff_exists.mp h5, of_decide_eq_true h6⟩
def insB (x : Str) : Fx := fun K => He.eqO (PySem.W.findIn K (.ref (He.ga K x)) "__class__") (some (some (.builtin "object.__class__"))) && (He.eqO (PySem.W.specialIn K (.builtin "object.__class__") "__get__") (some (some (.builtin "getset_descriptor.__get__"))) && (decide (PySem.W.takesIn K (.builtin "object.__class__") = some true) && (decide (PySem.W.mroIn K (He.ga K x) (.type "object") = some true) && decide (PySem.W.kitOne K (.ref (He.ga K x)) (.ref (He.ga K x)) = some true))))
theorem insB_ok {K : Fr'} {x : Str} (c : Cls K (He.ga K x)) (h : insB x K = true) : (∀ (H : Hp) (a dx : Addr) (fs : List (Str × V)), H a = some (.ins (He.ga K x) dx fs) → TyX K H (.ref a) (.ref (He.ga K x))) ∧ PySem.W.kitOne K (.ref (He.ga K x)) (.ref (He.ga K x)) = some true := by
  obtain ⟨h1, h⟩ := He.ba h
  obtain ⟨h2, h⟩ := He.ba h
  obtain ⟨h3, h⟩ := He.ba h
  obtain ⟨h4, h5⟩ := He.ba h
  exact ⟨fun H a dx fs e => .base (.ins e c (He.eqO_ok h1) (He.eqO_ok h2) (of_decide_eq_true h3) (of_decide_eq_true h4)), of_decide_eq_true h5⟩
def noB (x : Str) : Fx := fun K => KD.all fun n => decide (PySem.W.kitOne K (.type n) (.ref (He.ga K x)) = some false)
theorem noB_ok {K : Fr'} {x : Str} (h : noB x K = true) : ∀ n ∈ KD, PySem.W.kitOne K (.type n) (.ref (He.ga K x)) = some false := fun n hn => of_decide_eq_true (List.all_eq_true.mp h n hn)
def kitNB (x y : Str) : Fx := fun K => decide (PySem.W.kitOne K (.ref (He.ga K x)) (.ref (He.ga K y)) = some false)
theorem kitNB_ok {K : Fr'} {x y : Str} (h : kitNB x y K = true) : PySem.W.kitOne K (.ref (He.ga K x)) (.ref (He.ga K y)) = some false := of_decide_eq_true h
end WB
namespace L2
open PySem
theorem Room.u1 {k : Nat} {A : Around} (r : Room k A) : A.units + 1 < cLine := by have := r.un; omega
end L2
namespace WB
open PySem PySem.Spec PyProof.Rows L2
abbrev Cl := Value × Option Nat × (Addr → Value → Option Addr → TS)
def wList (K : PySem.W.Frag) (D : Ends) : List Cl → WX
  | [] => fun _ _ _ _ => False
  | (c, some i, t) :: r => wAs K c i t (wList K D r) D
  | (c, none, t) :: r => fun cls d σ H => ∃ b, PySem.W.exmOne K cls c = some b ∧ (b = true → ∀ a, H a = none → t a cls d D σ H) ∧ (b = false → wList K D r cls d σ H)
inductive ClsOk (X : Cx) : List ExceptHandler → List Cl → Prop
  | none {hs : List ExceptHandler} : ClsOk X hs []
  | more {x n : Str} {c : Value} {i : Nat} {t : Addr → Value → Option Addr → TS} {b : Stmt} {bs : List Stmt} {p p' : Pos} {hs : List ExceptHandler} {l : List Cl} (hi : X.N[i]? = some n) (hk : X.env.kindOf n = some .local) (hx : Names X x c)
      (hb : ∀ (a : Addr) (o : Obj) (cl : Value) (d : Option Addr) (pn : List (Addr × Obj)), L2N.Zn cl d o → (∃ fv, o.data = .fields fv) → PSs (X.suite a ((a, o) :: pn)) (b :: bs) (t a cl d)) (r : ClsOk X hs l) :
      ClsOk X (.ExceptHandler (some (.Name x p)) (some n) (b :: bs) p' :: hs) ((c, some i, t) :: l)
  | bare {x : Str} {c : Value} {t : Addr → Value → Option Addr → TS} {b : Stmt} {bs : List Stmt} {p p' : Pos} {hs : List ExceptHandler} {l : List Cl} (hx : Names X x c)
      (hb : ∀ (a : Addr) (o : Obj) (cl : Value) (d : Option Addr) (pn : List (Addr × Obj)), L2N.Zn cl d o → (∃ fv, o.data = .fields fv) → PSs (X.suite a ((a, o) :: pn)) (b :: bs) (t a cl d)) (r : ClsOk X hs l) :
      ClsOk X (.ExceptHandler (some (.Name x p)) none (b :: bs) p' :: hs) ((c, none, t) :: l)
section
variable {X : Cx} {body : List Stmt} {h1 : ExceptHandler} {hs : List ExceptHandler} {l : List Cl} {pos : Pos} {tb : WX → TS}
theorem ps_tryL (hst : X.stack = X.env :: X.outer) (hfr : X.env.frame = some X.env.locals) (hnd : X.N.Nodup)
    (hbody : ∀ (W : WX) (pn : List (Addr × Obj)) (xe : Value → Shared → Prop), L2N.Takes (X.tr pn xe) W → PassesOwn (model X.prog X.w) X.A X.env xe → PSs (X.tr pn xe) body (tb W)) (hcl : ClsOk X (h1 :: hs) l) :
    PS X (.Try body (h1 :: hs) [] [] pos) (fun D σ H => tb (wList X.K D l) D σ H) := by
  refine ⟨fun pins s σ H D I hh => ?_⟩
  have good := I.ok
  have frm : X.A.frames = some (X.env :: X.outer) := by rw [good.frames, hst]
  refine wpAny_Try_except ?_
  refine wpAny_mono ((hbody (wList X.K D l) (X.pn ++ pins) (fun e t1 => wpAny (model X.prog X.w) X.A (noteFrame e X.env) (fun _ t2 => wpAny (model X.prog X.w) X.A (setFlight e none) (fun _ t3 =>
    wpAny (model X.prog X.w) X.A (handleBy e X.env (h1 :: hs)) (SP X pins D) X.xe t3) X.xe t2) X.xe t1) (fun u s' air => ?_) PassesOwn.looking).run [] s σ H D (I.toTry _) hh) (fun fl s1 out => ?_) (fun _ _ z => z)
  · obtain ⟨a, B, sI, pins', σ', H', cl, d, rfl, J', nb, up, sky, na, os, ag, wish⟩ := air
    have J : Inv X pins σ' H' sI := J'.ofTry good
    have sky2 : Sky B (X.env :: X.outer) a (L2N.Zn cl d) X.env.locals s'.heap := by rw [← hst]; exact sky
    show wpAny (model X.prog X.w) X.A (noteFrame (.ref a) X.env) _ _ _
    refine L2N.Sky.land L2N.Zn.steady frm hfr sky2 fun g3 f3 u3 => ?_
    have K3 : Inv X pins σ' H' { s' with heap := g3 } := J.landed nb f3.1 (up.trans u3) os ag
    obtain ⟨o3, v3, q3, z3, d3⟩ := f3.there
    have away : a ∉ frs (X.env :: X.outer) := fun hm => by
      obtain ⟨_, o', e', no⟩ := f3.2.2.1.mem hm
      rw [q3] at e'
      cases e'
      exact no _ d3
    have nL : a ≠ X.env.locals := fun z => away (List.mem_filterMap.mpr ⟨X.env, List.mem_cons_self, by rw [hfr, z]⟩)
    have nF : a ∉ X.fs := fun hm => by
      obtain ⟨e, he, q⟩ := List.mem_filterMap.mp hm
      exact away (List.mem_filterMap.mpr ⟨e, List.mem_cons_of_mem _ he, q⟩)
    have S3 := K3.suite q3 d3 na nL nF
    have walk : ∀ {hs' : List ExceptHandler} {l' : List Cl}, ClsOk X hs' l' → wList X.K D l' cl d σ' H' → wpAny (model X.prog X.w) X.A (handleBy (.ref a) X.env hs') (SP X pins D) X.xe { s' with heap := g3 } := by
      intro hs' l' ok'
      induction ok' with
      | none => exact fun z => False.elim z
      | @more x n c i t b bs p p' hs2 l2 hi hk hx hb r ih =>
        intro wish2
        obtain ⟨yes, hex, w1, w0⟩ := wish2
        refine wpAny_handleBy_cons (codeAny_handlers_test ?_) (by intro q; cases q)
        have kind : PySem.W.Looks (model X.prog X.w) g3 (typeOf (.ref a)) cl := fun A Q E s k q => wpAny_typeOf_ref (k _ _ q3) (by rw [z3.1]; exact q)
        have look := PySem.W.exm_one (M := model X.prog X.w) (K3.kIn) kind hex
        have test : ∀ {Q : Value → Shared → Prop} {E : Value → Shared → Prop}, Q c { s' with heap := g3 } → wpAny (model X.prog X.w) (X.A.mark (some (.ref a))) (eval (.Name x p) X.env) Q E { s' with heap := g3 } := fun {Q E} q => by
          obtain ⟨y1, y2, y3 | ⟨y3, y4, y5⟩⟩ := hx
          · exact ld_glob (X := X.suite a ((a, o3) :: (X.pn ++ pins))) S3 y1 y3 q y2
          · exact ld_blt (X := X.suite a ((a, o3) :: (X.pn ++ pins))) S3 y1 y3 y4 q y5 y2
        refine test (look.here ?_)
        cases yes with
        | false =>
          show wpAny _ X.A (handleBy (.ref a) X.env hs2) _ _ _
          exact ih (w0 rfl)
        | true =>
          refine codeAny_handlers_suite_as ?_
          refine HandSPX.lands_againZ f3 fun g4 f4 u4 => ?_
          have K4 : Inv X pins σ' H' { s' with heap := g4 } := J.landed nb f4.1 ((up.trans u3).trans u4) os ag
          obtain ⟨o4, v4, q4, z4, d4⟩ := f4.there
          have S4 := K4.suite q4 d4 na nL nF
          refine store_ok (X := X.suite a ((a, o4) :: (X.pn ++ pins))) (v := .ref a) S4 hnd hi (.inl hk) rfl (fun s5 S5 => ?_) (.inr hk)
          refine wpAny_mono ((hb a o4 cl d (X.pn ++ pins) z4 ⟨_, d4⟩).run [] s5 _ H' _ S5 (w1 rfl a na)) (fun fl s6 out => ?_) (fun _ _ z => False.elim z)
          have shut : ∀ {σ6 : L2.St} {H6 : Hp} {Q : Shared → Prop}, Inv (X.suite a ((a, o4) :: (X.pn ++ pins))) [] σ6 H6 s6 → (∀ s7, Inv X pins (σ6.set i none) H6 s7 → Q s7) →
              wpAny (model X.prog X.w) X.A (do bindName X.env n .none; unbindBehindTheSuite X.env n p') (fun _ s7 => Q s7) X.xe s6 := fun {σ6 H6 Q} S6 q => gone_ok (S6.unsuite good) hnd hi hk q
          cases fl with
          | next =>
            obtain ⟨σ6, H6, S6, q6⟩ := out
            exact shut S6 fun s7 J7 => ⟨_, _, J7, q6⟩
          | brk =>
            obtain ⟨σ6, H6, S6, q6⟩ := out
            exact shut S6 fun s7 J7 => ⟨_, _, J7, q6⟩
          | cont =>
            obtain ⟨σ6, H6, S6, q6⟩ := out
            exact shut S6 fun s7 J7 => ⟨_, _, J7, q6⟩
          | ret u =>
            obtain ⟨v6, σ6, H6, S6, r6, q6⟩ := out
            exact shut S6 fun s7 J7 => ⟨_, _, _, J7, r6, q6⟩
      | @bare x c t b bs p p' hs2 l2 hx hb r ih =>
        intro wish2
        obtain ⟨yes, hex, w1, w0⟩ := wish2
        refine wpAny_handleBy_cons (codeAny_handlers_test ?_) (by intro q; cases q)
        have kind : PySem.W.Looks (model X.prog X.w) g3 (typeOf (.ref a)) cl := fun A Q E s k q => wpAny_typeOf_ref (k _ _ q3) (by rw [z3.1]; exact q)
        have look := PySem.W.exm_one (M := model X.prog X.w) (K3.kIn) kind hex
        have test : ∀ {Q : Value → Shared → Prop} {E : Value → Shared → Prop}, Q c { s' with heap := g3 } → wpAny (model X.prog X.w) (X.A.mark (some (.ref a))) (eval (.Name x p) X.env) Q E { s' with heap := g3 } := fun {Q E} q => by
          obtain ⟨y1, y2, y3 | ⟨y3, y4, y5⟩⟩ := hx
          · exact ld_glob (X := X.suite a ((a, o3) :: (X.pn ++ pins))) S3 y1 y3 q y2
          · exact ld_blt (X := X.suite a ((a, o3) :: (X.pn ++ pins))) S3 y1 y3 y4 q y5 y2
        refine test (look.here ?_)
        cases yes with
        | false =>
          show wpAny _ X.A (handleBy (.ref a) X.env hs2) _ _ _
          exact ih (w0 rfl)
        | true =>
          refine codeAny_handlers_suite ?_
          refine HandSPX.lands_againZ f3 fun g4 f4 u4 => ?_
          have K4 : Inv X pins σ' H' { s' with heap := g4 } := J.landed nb f4.1 ((up.trans u3).trans u4) os ag
          obtain ⟨o4, v4, q4, z4, d4⟩ := f4.there
          have S4 := K4.suite q4 d4 na nL nF
          refine wpAny_mono ((hb a o4 cl d (X.pn ++ pins) z4 ⟨_, d4⟩).run [] _ _ H' _ S4 (w1 rfl a na)) (fun fl s6 out => ?_) (fun _ _ z => False.elim z)
          cases fl with
          | next =>
            obtain ⟨σ6, H6, S6, q6⟩ := out
            exact ⟨_, _, S6.unsuite good, q6⟩
          | brk =>
            obtain ⟨σ6, H6, S6, q6⟩ := out
            exact ⟨_, _, S6.unsuite good, q6⟩
          | cont =>
            obtain ⟨σ6, H6, S6, q6⟩ := out
            exact ⟨_, _, S6.unsuite good, q6⟩
          | ret u =>
            obtain ⟨v6, σ6, H6, S6, r6, q6⟩ := out
            exact ⟨_, _, _, S6.unsuite good, r6, q6⟩
    exact walk hcl wish
  · cases fl with
    | next =>
      obtain ⟨σ', H', J', q⟩ := out
      exact wpAny_execs_nil ⟨σ', H', J'.ofTry good, q⟩
    | brk =>
      obtain ⟨σ', H', J', q⟩ := out
      exact ⟨σ', H', J'.ofTry good, q⟩
    | cont =>
      obtain ⟨σ', H', J', q⟩ := out
      exact ⟨σ', H', J'.ofTry good, q⟩
    | ret u =>
      obtain ⟨v, σ', H', J', r, q⟩ := out
      exact ⟨v, σ', H', J'.ofTry good, r, q⟩
end
end WB
namespace WB
open PySem PySem.Spec PyProof.Rows L2
section
variable {P : Program} {w : World} {K : PySem.W.Frag} {mg : Str → Option Value} {base : Heap} {k : Nat} {f : Addr} {fd : FuncData} {ps : List Str} {sp sp2 : Sp}
theorem FnOk_lift (F : FnOk P w K mg base CX0 k f fd ps sp) : FnOk P w K mg base (L2N.CX P w) k f fd ps sp := by
  refine ⟨F.len, fun A outer s H args us vs Q E hr e0 hb r h => codeAny_mono (F.run A outer s H args us vs Q E hr e0 hb r h) fun r s' hq => ?_⟩
  cases r with
  | error e => exact (show False from hq).elim
  | ok fl =>
    cases fl with
    | ret u => exact hq
    | next => exact False.elim hq
    | brk => exact False.elim hq
    | cont => exact False.elim hq
theorem FnOk_or {CX : CXT} {j : Nat} (F : FnOk P w K mg base CX k f fd ps sp) (G : FnOk P w K mg base CX j f fd ps sp2) (hj : j ≤ k) : FnOk P w K mg base CX k f fd ps (fun vs H Q E => sp vs H Q E ∨ sp2 vs H Q E) := by
  refine ⟨fun vs H Q E h => h.elim (F.len _ _ _ _) (G.len _ _ _ _), fun A outer s H args us vs Q E hr e0 hb r h => ?_⟩
  rcases h with h | h
  · exact F.run A outer s H args us vs Q E hr e0 hb r h
  · exact G.run A outer s H args us vs Q E (hr.mono hj) e0 hb r h
end
def oexB (x : Str) : PySem.W.Frag → Bool := fun K => (match K.lookup (He.ga K x) with
  | some ⟨.type "type", _, .cls cd, sl⟩ => (match cd.mro, sl.toList with
    | .ref C' :: bm, [_, _, _, _, some (.builtin n), _] => C' == He.ga K x && n == "ValueError.__new__" && !cd.hasDel && cd.hasDict && PySem.HandSPX.refsVE bm
    | _, _ => false)
  | _ => false) && (He.eqO (PySem.W.findIn K (.ref (He.ga K x)) "__setattr__") (some (some (.builtin "object.__setattr__"))) && (decide (PySem.W.subIn K (.ref (He.ga K x)) (.type "BaseException") = some true) && (decide (PySem.W.typeIn K (.ref (He.ga K x)) = some (.type "type")) && PySem.W.keepIn K (.ref (He.ga K x)))))
theorem oexB_ok {K : PySem.W.Frag} {x : Str} (h : oexB x K = true) : OexC K (He.ga K x) := by
  obtain ⟨q, h⟩ := He.ba h
  obtain ⟨h1, h⟩ := He.ba h
  obtain ⟨h2, h⟩ := He.ba h
  obtain ⟨h3, h4⟩ := He.ba h
  refine ⟨?_, He.eqO_ok h1, of_decide_eq_true h2, of_decide_eq_true h3, h4⟩
  split at q
  · rename_i dd cd sl ho
    split at q
    · rename_i C' bm k0 k1 k2 k3 n k5 hm hs
      simp only [Bool.and_eq_true, beq_iff_eq, Bool.not_eq_true'] at q
      obtain ⟨⟨⟨⟨e1, e2⟩, hdel⟩, hdc⟩, ht⟩ := q
      obtain ⟨nm, bs, mro, ns, qn, hd, sn, sub, ab, col, del⟩ := cd
      dsimp only at hm hdel hdc
      subst hm hdel hdc e2
      have hsl : sl = #[k0, k1, k2, k3, some (.builtin "ValueError.__new__"), k5] := by
        obtain ⟨l⟩ := sl
        simp only at hs
        rw [hs]
      subst hsl
      rw [e1] at ho
      exact ⟨_, _, _, _, _, _, _, _, _, _, _, _, _, _, _, ho, ht⟩
    · cases q
  · cases q
section
variable {X : Cx} {e : Expr} {es : List Expr} {ta : TA} {p pos : Pos}
theorem pmk_oexN {CX : CXT} {x : Str} {C fI : Addr} {k : Nat} {fd : FuncData} {ps : List Str} {sp : Sp} (T : OexC X.K C) (iC : PySem.W.findIn X.K (.ref C) "__init__" = some (some (.ref fI))) (tI : PySem.W.typeIn X.K (.ref fI) = some (.type "function"))
    (F1 : FnOk X.prog X.w X.K X.mg X.base CX k fI fd ps sp) (hr : Room (k + 1) X.A) (hb : Binds X.K fd ps []) (hx : Passes CX X (fun _ _ _ => False)) (hg : Gl X x) (hm : X.mg x = some (.ref C)) (ha : PA X (e :: es) ta)
    (hdb : (x == ("__debug__" : Str)) = false := by decide) (he : starEach (e :: es) X.env = (false, eval e X.env) :: starEach es X.env := by rfl) (hpl : (backTo pos (starEach es X.env)).any (·.1) = false := by rfl) :
    L2N.PMk X (.Call (.Name x p) (e :: es) [] pos) (tMkO C sp [] ta) := by
  intro pins s σ H Q I h
  obtain ⟨nm, q, N, bs, bm, sn, sub, ab, col, dd, k0, k1, k2, k3, k5, hC, hbm⟩ := T.cls
  refine wpAny_Call_Name_kw (ld_glob I hg hm ?_ hdb)
  refine PySem.W.callWith_K (h₀ := X.base) I.ok.mod.kin T.kC (thn (ha.run pos pins s σ H _ I h) fun us s1 ⟨vs, H1, I1, r1, hz, q1⟩ => ⟨I1.kIn, ?_⟩) he hpl
  show wpAny _ _ (call (.ref C) us) _ _ _
  obtain ⟨hp, g, dr, tk, os⟩ := s1
  have big : hp.objs.size ≤ hp.objs.size + 1 := Nat.le_succ _
  have start := q1 (hp.objs.size + 1) (I1.hok.fresh big)
  rw [List.append_nil] at start
  have kk : ∀ b o, hp.get? b = some o → ((hp.push (PySem.W.kdv_tup us)).push (PySem.HandSPX.excO C hp.objs.size)).get? b = some o := fun b o e => Heap.get?_push_of_some _ (Heap.get?_push_of_some _ e)
  have hget : ((hp.push (PySem.W.kdv_tup us)).push (PySem.HandSPX.excO C hp.objs.size)).get? (hp.objs.size + 1) = some (PySem.HandSPX.excO C hp.objs.size) := by heap_get
  have I2 := I1.laid (t' := tk) (a := hp.objs.size + 1) (o := exo (hp.objs.size + 1) C none) (h' := (hp.push (PySem.W.kdv_tup us)).push (PySem.HandSPX.excO C hp.objs.size)) kk big (exo_ok hget)
  have r2 : Vals (V.ref (hp.objs.size + 1) :: vs) (Value.ref (hp.objs.size + 1) :: us) := .cons rfl r1
  have hl : (Value.ref (hp.objs.size + 1) :: us ++ []).length = ps.length := by
    have e := r2.length
    rw [F1.len _ _ _ _ start] at e
    rw [List.append_nil]
    exact e.symm
  have hus : us.length ≤ sizeLine := by
    rw [← Paired.length r1, sizeLine_eq]
    omega
  have hbb := hb _ (Value.ref (hp.objs.size + 1) :: us) I2.kIn hl
  rw [List.append_nil] at hbb
  refine wpAny_call (PySem.HandSPX.call_own F.excBase_ValueError (fun Y => PySem.HandSPX.refsVE_contains Y bm hbm) (I1.kIn _ _ hC) (PySem.W.looks_findIn I1.kIn iC) (fun self => PySem.W.bind_fn I1.kIn self tI) hus
    (codeAny_mono (F1.run _ X.stack _ _ ⟨Value.ref (hp.objs.size + 1) :: us, []⟩ (Value.ref (hp.objs.size + 1) :: us) _ _ (fun _ _ _ => False) (hr.make C us []) (I2.env0.make C us []) hbb r2 start) fun r s' hq' => ?_))
  cases r with
  | error er => exact hx pins σ _ _ er s' I2 hq'
  | ok fl =>
    cases fl with
    | ret u =>
      obtain ⟨v, H2, os2, bare2, un2, hok2, rv, ev, d, fs, ea, ed, hd1, q2⟩ := hq'
      subst ev
      obtain ⟨h2, g2, d2, t2, os'⟩ := s'
      obtain ⟨t0, G, J, kG, ge, hoe, na⟩ := mk_end0 (d2 := d2) (t2 := t2) I1 big kk un2 hok2 os2 bare2 ea ed hd1
      exact ⟨rv, _, _, _, ⟨G, g2, d2, t2, os'⟩, _, .ref C, some d, rfl, J, kG, ge, hoe, ⟨rfl, rfl, fun vs e => by cases e; rfl⟩, rfl, rfl, na, rfl, bare2, raises_own T.exC T.tyC, q2⟩
    | next => exact False.elim hq'
    | brk => exact False.elim hq'
    | cont => exact False.elim hq'
end
def sp_exc (K : PySem.W.Frag) (C : Addr) (f : Str) : Sp := fun vs H Q _ => ∃ (a : Addr) (v : V), vs = [.ref a, v] ∧ OexC K C ∧ PySem.W.findIn K (.ref C) f = some none ∧ H a = some (exo a C none) ∧
  ∀ dx, H dx = none → dx ≠ a → Q .non (upd (upd H dx (exd dx [(f, v)])) a (exo a C (some dx)))
def t_exc (K : PySem.W.Frag) (f : Str) : TS := tOst K f (tVar 0) (tVar 1)
theorem pure_exc {K : PySem.W.Frag} {C : Addr} {f : Str} {vs : List V} {H : Hp} {Q : VK} {E : XK} {N : List Str} (hN : N.length = 2) (h : sp_exc K C f vs H Q E) : t_exc K f { nx := fun _ H' => Q .non H', rt := Q } (start N vs) H := by
  obtain ⟨a, v, rfl, T, hno, ha, k⟩ := h
  obtain ⟨x, y, rfl⟩ : ∃ x y, N = [x, y] := by
    match N, hN with
    | [x, y], _ => exact ⟨x, y, rfl⟩
  exact ⟨v, rfl, .ref a, rfl, a, C, rfl, T, hno, .inl ⟨ha, fun dx h1 h2 => k dx h1 h2⟩⟩
def tRs (K : PySem.W.Frag) (C : Addr) (f : Str) (E : XK) (ta : TA) : TS := fun _ σ H => tMkO C (sp_exc K C f) [] ta σ H E
theorem upd_del {H : Hp} {a d : Addr} {o p q : HO} {y : HO} (ha : H a = none) (hd : d ≠ a) : upd (del (upd (upd (upd H a o) d p) a q) a) d y = upd H d y := by
  funext b
  by_cases hb : b = d
  · subst hb
    rw [upd_same, upd_same]
  · rw [upd_ne hb, upd_ne hb]
    by_cases hc : b = a
    · subst hc
      rw [del_same, ha]
    · rw [del_ne hc, upd_ne hc, upd_ne hb, upd_ne hc]
structure ExcK (K : PySem.W.Frag) (C fI : Addr) (f : Str) : Prop where
  ox : OexC K C
  no : PySem.W.findIn K (.ref C) f = some none
  ini : PySem.W.findIn K (.ref C) "__init__" = some (some (.ref fI))
  fn : PySem.W.typeIn K (.ref fI) = some (.type "function")
  xf : XfC K C
def excKB (x f : Str) : PySem.W.Frag → Bool := fun K => oexB x K && (He.eqO (PySem.W.findIn K (.ref (He.ga K x)) f) (some none) && (He.eqO (PySem.W.findIn K (.ref (He.ga K x)) "__init__") (some (some (.ref (He.ma K (He.ga K x) "__init__")))) &&
  (decide (PySem.W.typeIn K (.ref (He.ma K (He.ga K x) "__init__")) = some (.type "function")) && xfB K (He.ga K x))))
theorem excKB_ok {K : PySem.W.Frag} {x f : Str} (h : excKB x f K = true) : ExcK K (He.ga K x) (He.ma K (He.ga K x) "__init__") f := by
  obtain ⟨h1, h⟩ := He.ba h
  obtain ⟨h2, h⟩ := He.ba h
  obtain ⟨h3, h⟩ := He.ba h
  obtain ⟨h4, h5⟩ := He.ba h
  exact ⟨oexB_ok h1, He.eqO_ok h2, He.eqO_ok h3, of_decide_eq_true h4, xfB_ok h5⟩
section
variable {X : Cx} {e : Expr} {ta : TA} {p pos pos' : Pos}
theorem ps_rs {x f : Str} {C fI : Addr} {k : Nat} {fd : FuncData} {ps : List Str} {E : XK} (hc : X.calm = true) (T : ExcK X.K C fI f) (F1 : FnOk X.prog X.w X.K X.mg X.base CX0 k fI fd ps (sp_exc X.K C f)) (hr : Room (k + 1) X.A) (hb : Binds X.K fd ps [])
    (tk : L2N.Takes X fun cls d _ H => E cls d H) (hg : Gl X x) (hm : X.mg x = some (.ref C)) (ha : PA X [e] ta) (hdb : (x == ("__debug__" : Str)) = false := by decide) (he : starEach [e] X.env = (false, eval e X.env) :: starEach [] X.env := by rfl) :
    PS X (.Raise (some (.Call (.Name x p) [e] [] pos)) none pos') (tRs X.K C f E ta) :=
  L2N.ps_raise (pos := pos') hc tk (pmk_oexN (x := x) (p := p) (pos := pos) T.ox T.ini T.fn F1 hr hb pass0 hg hm ha hdb he (by rfl))
end
theorem rs_of {K : PySem.W.Frag} {C fI : Addr} {f : Str} {E : XK} {H : Hp} {v : V} (T : ExcK K C fI f) (h : ∀ d, H d = none → E (.ref C) (some d) (upd H d (.xd [(f, v)]))) :
    [v].length ≤ 1000 ∧ ∀ a, H a = none → sp_exc K C f (.ref a :: ([v] ++ [])) (upd H a (exo a C none))
      (fun z H2 => z = .non ∧ ∃ (d : Addr) (fs : List (Str × V)), H2 a = some (exo a C (some d)) ∧ H2 d = some (exd d fs) ∧ H d = none ∧ E (.ref C) (some d) (upd (del H2 a) d (.xd fs))) (fun _ _ _ => False) := by
  refine ⟨by simp, fun a hn => ⟨a, v, rfl, T.ox, T.no, upd_same, fun dx h2 h3 => ?_⟩⟩
  have hdx : H dx = none := by
    rw [upd_ne h3] at h2
    exact h2
  refine ⟨rfl, dx, [(f, v)], upd_same, by rw [upd_ne h3, upd_same], hdx, ?_⟩
  rw [upd_del hn h3]
  exact h dx hdx
end WB
namespace WB
open PySem PySem.Spec PyProof.Rows L2 LamX
def lamN (X : Cx) (A : Around) (outer : List Env) (s : Shared) (H : Hp) (E : XK) (scope : Scope) (f c' : Addr) : Cx :=
  { lamCx X A outer s H E scope f c' with xe := fun e s' => wpAny (model X.prog X.w) (A.deeper (lamEnv X scope s.heap.objs.size f c')) (leaving (lamEnv X scope s.heap.objs.size f c') e) (fun _ s'' => L2N.CX X.prog X.w outer H s E e s'') (fun e' s'' => L2N.CX X.prog X.w outer H s E e' s'') s' }
theorem lam_takes {X : Cx} {A : Around} {outer : List Env} {s : Shared} {H : Hp} {E : XK} {scope : Scope} {f c' : Addr} : L2N.Takes (lamN X A outer s H E scope f c') fun cls d _ H => E cls d H := L2N.takes_of rfl rfl rfl rfl
theorem lam_passes {X : Cx} {A : Around} {outer : List Env} {s : Shared} {H : Hp} {E : XK} {scope : Scope} {f c' : Addr} : Passes (L2N.CX (lamN X A outer s H E scope f c').prog (lamN X A outer s H E scope f c').w) (lamN X A outer s H E scope f c') E := L2N.passes_call lam_takes fun _ _ _ _ h => h
def upT (tl : XK → Hp → VK → Prop) (E : XK) (H : Hp) (Q : VK) : Prop := ∃ (E1 : XK) (Q1 : VK), (∀ c d H', E1 c d H' → E c d H') ∧ (∀ v H', Q1 v H' → Q v H') ∧ tl E1 H Q1
def tAct (f c' : Addr) (q : Str) (tl : XK → Hp → VK → Prop) (W : WX) : TE := fun σ H Q => σ[0]? = some (some (.ref f)) ∧ H c' = some (CodeO c' q) ∧ upT tl (WE W σ) H Q
theorem CR_wide {P : Program} {w : World} {outer : List Env} {H : Hp} {s s' : Shared} {Q Q1 : VK} {E E1 : XK} {r : Result} (hE : ∀ c d H', E1 c d H' → E c d H') (hQ : ∀ v H', Q1 v H' → Q v H') (h : CR (L2N.CX P w) outer P w H s Q1 E1 r s') : CR (L2N.CX P w) outer P w H s Q E r s' := by
  cases r with
  | error e =>
    obtain ⟨a, B, H', cls, d, h1, h2, h3, h4, h5, h6, h7, h8⟩ := h
    exact ⟨a, B, H', cls, d, h1, h2, h3, h4, h5, h6, h7, hE _ _ _ h8⟩
  | ok fl =>
    cases fl with
    | ret u =>
      obtain ⟨v, H', h1, h2, h3, h4, h5, h6⟩ := h
      exact ⟨v, H', h1, h2, h3, h4, h5, hQ _ _ h6⟩
    | next => exact False.elim h
    | brk => exact False.elim h
    | cont => exact False.elim h
section
variable {X : Cx} {pins : List (Addr × Obj)} {σ : L2.St} {H HZ : Hp} {s s1 : Shared}
theorem pe_actN {CXg : CXT} {Eg : XK} {Ng : List Str} {qg : Str} {sg : Scope} {g f c' : Addr} {cdg pm ctv : Value} {params : Arguments} {body : Expr} {scope : Scope} {k : Nat} {a : Str} {pn : List (Addr × Obj)} {xe : Value → Shared → Prop} {W : WX} {tb : XK → TE} {p1 p2 : Pos}
    (I : Inv X pins σ H s) (L : LamS X.env.scope scope) (hf : s.heap.get? f = some (PySem.W.kla_obj "<lambda>" (X.env.qual ++ "<lambda>") params body scope (cloFrom X.env.cells scope.names []) pm c' ctv)) (hfn : H f = none) (hfr : f ∉ frs X.stack)
    (hbind : bindArgs (PySem.W.kla_fn "<lambda>" (X.env.qual ++ "<lambda>") params body scope (cloFrom X.env.cells scope.names []) pm (.ref c') ctv) ⟨[], []⟩ = pure [])
    (tk : L2N.Takes ((cxOf CXg X.prog X.w X.K X.mg X.base Ng qg sg g cdg X.A X.stack s H Eg).tr pn xe) W) (hr : Room (k + 1) (X.A.deeper (envOfC qg sg s.heap.objs.size g cdg)))
    (hbody : ∀ (A : Around) (outer : List Env) (s : Shared) (H : Hp) (E : XK), Room k (A.deeper (lamEnv X scope s.heap.objs.size f c')) → PE (lamN X A outer s H E scope f c') body (tb E))
    (hN : Ng[0]? = some a) (hv : Vis sg a) (hd : (a == ("__debug__" : Str)) = false := by decide) (hcd : (a == ("__classdict__" : Str)) = false := by decide) :
    PE ((cxOf CXg X.prog X.w X.K X.mg X.base Ng qg sg g cdg X.A X.stack s H Eg).tr pn xe) (.Call (.Name a p1) [] [] p2)
      (tAct f c' (X.env.qual ++ "<lambda>") (fun E H' Q' => tb E σ H' Q') W) := by
  refine ⟨fun pinsZ sZ σZ HZ Q IZ h => ?_⟩
  obtain ⟨hs, hc, E, Q1, wE, wQ, ht⟩ := h
  refine wpAny_Call_Name_kw (thn ((pe_var (pos := p1) (i := 0) hN hv hd hcd).run pinsZ sZ σZ HZ (fun v H1 => v = .ref f ∧ H1 = HZ) IZ ⟨.ref f, hs, rfl, rfl⟩) fun u s1 ⟨v, H1, I1, r1, q1⟩ => ?_)
  obtain ⟨ev, eH⟩ := q1
  subst ev
  rw [eH] at I1
  obtain rfl : u = Value.ref f := r1
  have of1 := I1.base.keep f _ hf hfn hfr (fun z => nomatch (show f ∈ ([] : List Addr) from z))
  refine PySem.W.callWith_F0 ⟨_, _, _, _, of1⟩ ?_
  have un : Un (frs X.stack) [] H HZ s.heap s1.heap := I1.base
  obtain ⟨⟨oc, vs, t, hoc, hdc, hvc⟩, _, _⟩ := I1.hok c' _ hc
  have rc : codeAny (model X.prog X.w) (X.A.deeper (envOfC qg sg s.heap.objs.size g cdg)) (.call (.ref f) ⟨[], []⟩) (CR (L2N.CX X.prog X.w) (envOfC qg sg s.heap.objs.size g cdg :: X.stack) X.prog X.w HZ s1 Q1 E) s1 := by
    refine PySem.W.kla_callFunE hr.depth of1 rfl L.co L.gen rfl ⟨c', oc, vs, t, rfl, hoc, hdc, hvc⟩ ?_
    rw [hbind]
    refine wpAny_pure (wpAny_newFunctionEnv (fun y hy => (L.own y hy).2) (fun y hy => absurd hy (by simp)) (fun h₁ hns hsb => ⟨I1.nolimit.fresh _ hsb, ?_⟩) L.kind)
    show codeAny _ _ (.expr body (lamEnv X scope s1.heap.objs.size f c')) _ _
    have kp : ∀ b o, s1.heap.get? b = some o → h₁.get? b = some o := fun b o e => hsb.extBut b o (Nat.ne_of_lt (Heap.lt_size e)) (Heap.get?_push_of_some _ e)
    have J0 : Inv (lamCx X (X.A.deeper (envOfC qg sg s.heap.objs.size g cdg)) (envOfC qg sg s.heap.objs.size g cdg :: X.stack) s1 HZ E scope f c') [] σ HZ { s1 with heap := h₁, toks := s1.toks + ([] : List (Str × Value)).length } :=
      lam_start2 I L I1.env0 hr.hd un hns kp
    have J : Inv (lamN X (X.A.deeper (envOfC qg sg s.heap.objs.size g cdg)) (envOfC qg sg s.heap.objs.size g cdg :: X.stack) s1 HZ E scope f c') [] σ HZ { s1 with heap := h₁, toks := s1.toks + ([] : List (Str × Value)).length } := by
      have ok := J0.ok
      exact ⟨⟨ok.mod, ok.kind, ok.glob, ok.blt, ok.above, ok.inj, ok.has, ok.cab, ok.hd, ok.frames, ok.stk, ok.exf, ok.bs, ok.bsz, ok.noex, ok.exfs, ok.funs, ok.frf⟩, J0.os, J0.bare, J0.base, J0.loc, J0.cell, J0.free, J0.freeC, J0.pin, J0.hok, J0.len⟩
    refine PySem.W.kla_codeExpr (wpAny_mono ((hbody _ _ s1 HZ E (hr.deeper _)).run [] _ _ HZ Q1 J ht) (fun v s' hq => ?_) fun e s' hq => hq)
    obtain ⟨w', H', J', rv, q⟩ := hq
    exact ⟨w', H', J'.os, J'.bare, J'.base, J'.hok, rv, q⟩
  refine wpAny_call (codeAny_mono rc fun r s' hq1 => ?_)
  have hq := CR_wide wE wQ hq1
  cases r with
  | error e => exact L2N.passAt tk σZ pinsZ HZ s1 e s' I1 hq
  | ok fl =>
    cases fl with
    | ret u => exact I1.after hq
    | next => exact False.elim hq
    | brk => exact False.elim hq
    | cont => exact False.elim hq
end
def GivesN (X : Cx) (k : Nat) (Ng : List Str) (x : Str) (sg : Scope) (g : Addr) (cdg : Value) (bg : List Stmt) (a : Str) (TT : (XK → Hp → VK → Prop) → Hp → VK → Prop) : Prop :=
  ∀ (q : Str) (f c' : Addr) (s : Shared) (H : Hp) (Q : VK) (tl : XK → Hp → VK → Prop), Room (k + 1) (X.A.deeper (envOfC x sg s.heap.objs.size g cdg)) →
    (∀ (W : WX) (pn : List (Addr × Obj)) (xe : Value → Shared → Prop) (p1 p2 : Pos), L2N.Takes ((cxOf CX0 X.prog X.w X.K X.mg X.base Ng x sg g cdg X.A X.stack s H E0).tr pn xe) W →
      PE ((cxOf CX0 X.prog X.w X.K X.mg X.base Ng x sg g cdg X.A X.stack s H E0).tr pn xe) (.Call (.Name a p1) [] [] p2) (tAct f c' q tl W)) →
    H c' = some (CodeO c' q) → TT tl H Q →
    ∃ t, PSs (cxOf CX0 X.prog X.w X.K X.mg X.base Ng x sg g cdg X.A X.stack s H E0).nox bg t ∧ t { nx := fun _ H' => Q .non H', rt := Q } (L2.start Ng [.ref f]) H
section
variable {X : Cx}
theorem pe_lamN {T : List (Addr × Str)} {TT : (XK → Hp → VK → Prop) → Hp → VK → Prop} {x a : Str} {g c P : Addr} {k : Nat} {pg : Arguments} {bg : List Stmt} {sg : Scope} {dvs kws} {fd : FuncData} {Ng : List Str}
    {params : Arguments} {body : Expr} {scope : Scope} {t : XK → TE} {p lpos pos : Pos} (hg : Gl X x) (hm : X.mg x = some (.ref g)) (Fg : FunD X.K x x pg bg sg dvs kws g fd) (hb : L2.Binds X.K fd [a] []) (Sg : FnScope Ng [a] sg) (hNg : Ng[0]? = some a) (hva : Vis sg a)
    (hG : ∀ cdv, GivesN X k Ng x sg g cdv bg a TT)
    (TB : TabB X.base X.mg c P) (hcode : X.env.code = .ref c) (hmT : (P, X.env.qual ++ "<lambda>") ∈ T) (hu : ∀ p ∈ T, p.1 = P → p.2 = X.env.qual ++ "<lambda>") (hr : Room (k + 2) X.A) (L : LamS X.env.scope scope) (hdef : defaultsOf params X.env = ([], []))
    (hbind : ∀ (q : Str) (cl : List (Str × Addr)) (pm cv ctv : Value), bindArgs (PySem.W.kla_fn "<lambda>" q params body scope cl pm cv ctv) ⟨[], []⟩ = pure [])
    (hbody : ∀ (A : Around) (outer : List Env) (s : Shared) (H : Hp) (E : XK) (f c' : Addr), Room k (A.deeper (lamEnv X scope s.heap.objs.size f c')) → PE (lamN X A outer s H E scope f c') body (t E))
    (hdb : (x == ("__debug__" : Str)) = false := by decide) (hd : (a == ("__debug__" : Str)) = false := by decide) (hcd : (a == ("__classdict__" : Str)) = false := by decide) :
    PE X (.Call (.Name x p) [.Lambda params body scope lpos] [] pos) (tLam T TT t) := by
  obtain ⟨oc, od, dV, kV, doc, pm, an, cdv, ct, osl, rfl, lk, hcg, _, _⟩ := Fg.ex
  refine ⟨fun pins s σ H Q I h => ?_⟩
  obtain ⟨hT, h⟩ := h
  refine wpAny_Call_Name_kw (ld_glob I hg hm ?_ hdb)
  refine PySem.W.callWith_K (h₀ := X.base) I.ok.mod.kin Fg.kp ?_ (by rfl) (by rfl)
  show wpAny _ _ (spliced ((false, eval (.Lambda params body scope lpos) X.env) :: backTo pos (starEach [] X.env))) _ _ s
  refine Calls.spliced_cons (lam_make2 I TB hcode hmT hu hT hdef (L.has I.ok) fun f c' pm' ctv H1 s' I1 eN T1 hf hfn hfr hco => ?_)
  refine Calls.spliced_nil ⟨I1.kIn, ?_⟩
  have rc : codeAny (model X.prog X.w) X.A (.call (.ref g) ⟨[.ref f], []⟩) (CR CX0 X.stack X.prog X.w H1 s' Q E0) s' := by
    refine run_ofS (N := Ng) (ps := [a]) (us := [.ref f]) (vs := [.ref f]) lk hcg Sg hr I1.env0 (hb s' [.ref f] I1.kIn rfl) (.cons rfl .nil) rfl fun hr' => ?_
    obtain ⟨t', ht', hq'⟩ := hG cdv _ f c' s' H1 Q (fun E H' Q' => t E σ H' Q') hr' (fun W pn xe p1 p2 tk => pe_actN I1 L hf hfn hfr (hbind _ _ _ _ _) tk hr' (fun A outer s H E hr2 => hbody A outer s H E f c' hr2) hNg hva hd hcd) hco (h H1 eN T1)
    exact ⟨t', ht'.nox, hq'⟩
  refine wpAny_call (codeAny_mono rc fun r s2 hq => ?_)
  cases r with
  | error e => exact (show False from hq).elim
  | ok fl =>
    cases fl with
    | ret u => exact I1.after hq
    | next => exact False.elim hq
    | brk => exact False.elim hq
    | cont => exact False.elim hq
end
end WB
namespace WB
open PySem PySem.Spec PyProof.Rows L2 LamX
structure SaysWT (fa : List He.Fa) (fn : List He5.DefA) (ex : List Fx) (tf : List He.Defn) (h : Heap) (K : Fr') : Prop where
  c : SaysW fa fn ex K
  hd : ∀ p ∈ tf, PySem.W.codeHdIn K (He.cT K p).1 (He.cT K p).2 = true
  out : ∀ p ∈ tf, K.lookup (He.cT K p).2 = none
  empty : ∀ p ∈ tf, h.get? (He.cT K p).2 = some { cls := .none, data := .fields #[] }
abbrev AlWT : Type := He.AlD × Bool
def obsWT (n : Nat) (fa : List He.Fa) (fn : List He5.DefA) (ex : List Fx) (tf : List He.Defn) (g : Addr → Option Obj) : AlWT := (obsW fa fn ex (He.frT g (asB g n)), He.tabsB g tf (He.frT g (asB g n)))
theorem saysWT_of {n : Nat} {fa : List He.Fa} {fn : List He5.DefA} {ex : List Fx} {tf : List He.Defn} {h : Heap} (e : obsWT n fa fn ex tf h.get? = (He5.valA fn, true)) : SaysWT fa fn ex tf h (He.frT h.get? (asB h.get? n)) := by
  have e1 : obsW fa fn ex (He.frT h.get? (asB h.get? n)) = He5.valA fn := congrArg (fun z : AlWT => z.1) e
  have e2 : He.tabsB h.get? tf (He.frT h.get? (asB h.get? n)) = true := congrArg (fun z : AlWT => z.2) e
  have key : ∀ p ∈ tf, PySem.W.codeHdIn (He.frT h.get? (asB h.get? n)) (He.cT (He.frT h.get? (asB h.get? n)) p).1 (He.cT (He.frT h.get? (asB h.get? n)) p).2 = true ∧ ∃ o, h.get? (He.cT (He.frT h.get? (asB h.get? n)) p).2 = some o ∧ He.emptyTab o = true := fun p hp => by
    obtain ⟨h3, h4⟩ := He.ba (List.all_eq_true.mp e2 p hp)
    refine ⟨h3, ?_⟩
    cases q : h.get? (He.cT (He.frT h.get? (asB h.get? n)) p).2 with
    | none =>
      rw [q] at h4
      cases h4
    | some o =>
      rw [q] at h4
      exact ⟨o, rfl, h4⟩
  refine ⟨e1, fun p hp => (key p hp).1, fun p hp => ?_, fun p hp => ?_⟩
  · obtain ⟨_, o, q, z⟩ := key p hp
    exact He.frT_none q z
  · obtain ⟨_, o, q, z⟩ := key p hp
    rw [q, He.emptyTab_eq z]
def hookWT (n : Nat) (fa : List He.Fa) (fn : List He5.DefA) (ex : List Fx) (tf : List He.Defn) : PySem.W.Hook where
  α := AlWT
  obs := fun s => obsWT n fa fn ex tf s.heap.get?
  val := fun _ => (He5.valA fn, true)
  says := fun _ h => ∃ K : Fr', K.In h ∧ SaysWT fa fn ex tf h K
  of := fun _ _ e => ⟨_, He.frT_in, saysWT_of e⟩
  keeps := fun _ _ _ ⟨K, hK, c⟩ k => ⟨K, PySem.W.Frag.In.keeps hK k, ⟨c.c, c.hd, c.out, fun p hp => k _ _ (c.empty p hp)⟩⟩
theorem obsWT_eq {n : Nat} {fa : List He.Fa} {fn : List He5.DefA} {ex : List Fx} {tf : List He.Defn} {g : Addr → Option Obj} {s : Shared} (h : ∀ a, g a = s.heap.get? a) : obsWT n fa fn ex tf g = (hookWT n fa fn ex tf).obs s := by
  have e : g = s.heap.get? := funext h
  rw [e] <;> rfl
theorem walk_ofTE {l : PySem.W.OpenLaw} {n k : Nat} {q : Program} {loose : List Str} {XP : (Str → Option Value) → Heap → Prop} {YP : World → Heap → Prop} {d : DefRec} {CX : CXT} {x : Str}
    (hn : l.most = some n) (hn2 : n ≤ sizeLine) (hdf : d.params.defaults = []) (hr : Room k callerA)
    (F : ∀ (w : World) (mg : Str → Option Value) (fa : Addr) (h : Heap), YP w h → h.Ns mainGlobals mg → mg d.name = some (.ref fa) → ∃ K : PySem.W.Frag, K.In h ∧ LawAtS l w K CX k n x mg fa h)
    (hCX : ∀ (H : Hp) (s : Shared) (e : Value) (s' : Shared), CX [] H s (fun _ _ _ => False) e s' → False) :
    PySem.W.WalkO q loose XP YP l.row.toRowW d [] (fun f vs => PySem.call f vs) := by
  refine Att.attach_callB hn hdf fun w s₀ s₁ mg mb fa o pm cd doc a vs ns G Y ho hd hcd hmg hobj hints hlen hbits hg => ?_
  obtain ⟨K, KX, fd, cs, sp, hT, nT, C, hb, hsp, hF⟩ := F w mg fa _ Y G.T.g hmg
  exact law_callTs KX G.T.g G.T.b G.T.builtins G.T.nolimit hg hT nT C G.T.bmain hobj hints (Nat.le_trans hlen hn2) hr hF hb (fun H hH hS => hsp H a ns hlen hbits hH hS) fun H e s' => hCX H s₁ e s'
def ExmAll (K : PySem.W.Frag) (l : List Str) : Prop := ∀ x ∈ l, ∀ y ∈ l, PySem.W.exmOne K (.ref (He.ga K x)) (.ref (He.ga K y)) = some (decide (x = y))
def exmAllB (l : List Str) : PySem.W.Frag → Bool := fun K => l.all fun x => l.all fun y => decide (PySem.W.exmOne K (.ref (He.ga K x)) (.ref (He.ga K y)) = some (decide (x = y)))
theorem exmAllB_ok {K : PySem.W.Frag} {l : List Str} (h : exmAllB l K = true) : ExmAll K l := fun x hx y hy => of_decide_eq_true (List.all_eq_true.mp (List.all_eq_true.mp h x hx) y hy)
def tabsOf (K : PySem.W.Frag) (l : List Str) : List (Addr × Str) := l.map fun x => ((He.cT K (x, none)).2, (x ++ ".<locals>.") ++ "<lambda>")
theorem tabs_ofL {K : PySem.W.Frag} {l : List Str} {H : Hp} (h : ∀ p ∈ (l.map fun x => ((x, none) : He.Defn)).map (He.cT K), H p.2 = some (.tbl #[])) : Tabs (tabsOf K l) H := by
  intro p hp
  obtain ⟨x, hx, rfl⟩ := List.mem_map.mp hp
  exact TabS.nil (h (He.cT K (x, none)) (List.mem_map.mpr ⟨(x, none), List.mem_map.mpr ⟨x, hx, rfl⟩, rfl⟩))
end WB
namespace WB
open PySem PySem.Spec PyProof.Rows L2
open PySem.W in
theorem bin_any {prog : Program} {w : World} {A : Around} {E : Value → Shared → Prop} {s : Shared} {K : Frag} {x C L f : Addr} {h₀ : Heap} {m : Str → Option Value} {ox : Obj} {od : Option Obj} {T : String} {op : Operator} {b : Value} {fo ro rc : Option Value} {Q : Value → Shared → Prop} (F : Fr h₀ L s.heap m) (X₀ : K.In h₀) (I : InstAt s.heap x ox C od) (hb : Looks (model prog w) s.heap (typeOf b) (.type T)) (hc : selfFirst K C = true)
    (hs : findIn K (.ref C) (PySem.dunder op.info.2) = some (some (.ref f))) (hf : isFn K (.ref f) = true) (hr : findIn K (.ref C) (dunderR op.info.2) = some rc) (hp : rc = none ∨ ∃ g : Addr, rc = some (.ref g))
    (h1 : findIn K (.type T) (PySem.dunder op.info.2) = some fo) (h2 : findIn K (.type T) (dunderR op.info.2) = some ro) (hsub : subIn K (.type T) (.ref C) = some false)
    (h : wpAny (model prog w) A (call (.ref f) [.ref x, b]) (PySem.W.CmpBack Q) E s) : wpAny (model prog w) A (binaryOp op (.ref x) b) Q E s := by
  have X := X₀.keeps F.keep
  obtain ⟨cd, rest, hcd, hm⟩ := ksp_first hc
  rcases hi : op.info with ⟨sy, nm⟩
  rw [hi] at hs hr h1 h2
  dsimp only at hs hr h1 h2
  have told := ksp_try X I hs hf h
  obtain ⟨hh, g, d, tt, os⟩ := s
  have tx : Looks (model prog w) hh (typeOf (.ref x)) (.ref C) := I.type
  have fx : Looks (model prog w) hh (fillsNumberSlot (.ref C) nm) true := fills_K X hcd hm hs
  have fb := ksp_fillsT (M := model prog w) X h1 h2
  have su : Looks (model prog w) hh (isSubtype (.type T) (.ref C)) false := looks_subIn X hsub
  have px : Looks (model prog w) hh (numberSlotInPython (.ref C) nm) true := ksp_inPy X hs hr hp
  have pb : Looks (model prog w) hh (numberSlotInPython (.type T) nm) false := Looks.of_pure rfl
  have lb : Looks (model prog w) hh (typeLookup (.type T) (dunderR nm)) ro := looks_findIn X h2
  have ne : (Value.ref C == Value.type T) = false := by
    cases e : (Value.ref C == Value.type T) with
    | false => rfl
    | true => cases beq_iff_eq.mp e
  generalize ((fo.isSome && !isSeqSlot fo) || (ro.isSome && !isSeqSlot ro)) = rr at fb
  simp only [binaryOp, hi]
  refine wpAny_holding (wpAny_bind ?_)
  unfold binaryOp1
  refine wpAny_bind (tx.at (wpAny_bind (hb.at (wpAny_bind (fx.at ?_)))))
  simp only [ne, Bool.false_eq_true, if_false]
  cases rr <;>
  · ksp_lk
    refine wpAny_mono told (fun r s' hr' => ?_) fun _ _ e => e
    obtain ⟨v, rfl, hq⟩ := hr'
    ksp_lk
    exact hq
variable {X : Cx} {CX : CXT} {k : Nat} {f C : Addr} {fd : FuncData} {ps : List Str} {sp : Sp} {E : XK}
def rBinV (C : Addr) (sp : Sp) (E : XK) (K : PySem.W.Frag) : R2 := fun x y H Q => ∃ a dx fs, x = .ref a ∧ H a = some (.ins C dx fs) ∧ (∃ n, Kd K H y n) ∧ sp [x, y] H Q E
def BinTs (K : PySem.W.Frag) (C : Addr) (nm : String) (f : Addr) : Prop := ∀ T ∈ KD, BinT K C nm T f
theorem op_binO_any {op : Operator} (S1 : BinTs X.K C op.info.2 f) (F : FnOk X.prog X.w X.K X.mg X.base CX k f fd ps sp) (hr : Room k X.A) (hb : Binds X.K fd ps []) (hx : Passes CX X E) : OpR X (binaryOp op) (rBinV C sp E X.K) := by
  intro pins s σ H x y v u Q I rx ry h
  obtain ⟨a, dx, fs, rfl, ha, ⟨n, hk, hn⟩, h⟩ := h
  have B := S1 n hn
  cases rx
  obtain ⟨P, Z, hP, _⟩ := kit_of I ry hk
  obtain ⟨ox, od, J⟩ := inst_at I ha
  obtain ⟨m, hF⟩ := I.fr
  obtain ⟨fo, h1⟩ := B.h1
  obtain ⟨ro, h2⟩ := B.h2
  refine bin_any (T := n) hF I.ok.mod.kin J (Z.ty _ _ (I.ok.mod.kin.keeps hF.keep) hP) B.sf B.sp.at_ B.sp.fn B.rc (.inl rfl) h1 h2 B.sub (wpAny_mono (run_sub (dvs := []) (vs := [.ref a, y]) F ⟨hr, rfl⟩ hb .nil hx I (.cons rfl (.cons ry .nil)) h) (fun v s' hv => cmpBack hv) fun _ _ z => z)
end WB
namespace WB
open PySem PySem.Spec PyProof.Rows L2
def binBs (x : Str) (nm : String) : Fx := fun K => KD.all fun T => binB x nm T K
theorem binBs_ok {K : Fr'} {x : Str} {nm : String} (h : binBs x nm K = true) : BinTs K (He.ga K x) nm (He.ma K (He.ga K x) (PySem.dunder nm)) := fun T hT => binB_ok (List.all_eq_true.mp h T hT)
end WB
namespace PySem
namespace OEG
open PySem.W PySem.Calls PyProof.Rows PySem.HandSPX
open Builtin Builtin.ObjectAttr
def strip : List Value → List Value
  | .ref _ :: r => strip r
  | l => l
theorem strip_eq (l : List Value) : ∃ cs : List Addr, l = cs.map Value.ref ++ strip l := by
  induction l with
  | nil => exact ⟨[], rfl⟩
  | cons a r ih =>
    cases a with
    | ref c => obtain ⟨cs, e⟩ := ih; exact ⟨c :: cs, by show Value.ref c :: r = Value.ref c :: (cs.map Value.ref ++ strip r); rw [← e]⟩
    | _ => exact ⟨[], rfl⟩
structure BaF (B nI iI : String) (bb : List Value) : Prop where
  b : ExcBaseFacts B nI iI bb
  p : ∀ self, refuseLoop self "__setattr__" bb = pure ()
  o : bb.contains (.type "object") = true
theorem baf_A : BaF "ArithmeticError" "ArithmeticError.__new__" "ArithmeticError.__init__" [.type "ArithmeticError", .type "Exception", .type "BaseException", .type "object"] := ⟨F.excBase_ArithmeticError, F.store_ArithmeticError.passes, by decide +kernel⟩
theorem baf_L : BaF "LookupError" "LookupError.__new__" "LookupError.__init__" [.type "LookupError", .type "Exception", .type "BaseException", .type "object"] := ⟨F.excBase_LookupError, F.store_LookupError.passes, by decide +kernel⟩
section
variable {B nI iI : String} {bb : List Value}
theorem cont_refs (Y : String) : ∀ cs : List Addr, (cs.map Value.ref ++ bb).contains (.type Y) = bb.contains (.type Y)
  | [] => rfl
  | c :: cs => by
    show (Value.ref c :: (cs.map Value.ref ++ bb)).contains (.type Y) = _
    rw [List.contains_cons, cont_refs Y cs]
    rfl
end
end OEG
end PySem
namespace WB
open PySem PySem.Spec PyProof.Rows L2
structure OexG (K : PySem.W.Frag) (C : Addr) : Prop where
  cls : ∃ B nI iI bb, OEG.BaF B nI iI bb ∧ ∃ nm q N bs cs sn sub ab col dd k0 k1 k2 k3 k5, K.lookup C = some (excClassObj nm q C N bs (List.map Value.ref cs ++ bb) true sn sub ab col dd k0 k1 k2 k3 k5 nI)
  sa : PySem.W.findIn K (.ref C) "__setattr__" = some (some (.builtin "object.__setattr__"))
  exC : PySem.W.subIn K (.ref C) (.type "BaseException") = some true
  tyC : PySem.W.typeIn K (.ref C) = some (.type "type")
  kC : PySem.W.keepIn K (.ref C) = true
def tailA : List Value := [.type "ArithmeticError", .type "Exception", .type "BaseException", .type "object"]
def tailL : List Value := [.type "LookupError", .type "Exception", .type "BaseException", .type "object"]
def oexGB (x : Str) : PySem.W.Frag → Bool := fun K => (match K.lookup (He.ga K x) with
  | some ⟨.type "type", _, .cls cd, sl⟩ => (match cd.mro, sl.toList with
    | .ref C' :: bm, [_, _, _, _, some (.builtin n), _] => C' == He.ga K x && !cd.hasDel && cd.hasDict && (n == "ArithmeticError.__new__" && OEG.strip bm == tailA || n == "LookupError.__new__" && OEG.strip bm == tailL)
    | _, _ => false)
  | _ => false) && (He.eqO (PySem.W.findIn K (.ref (He.ga K x)) "__setattr__") (some (some (.builtin "object.__setattr__"))) && (decide (PySem.W.subIn K (.ref (He.ga K x)) (.type "BaseException") = some true) && (decide (PySem.W.typeIn K (.ref (He.ga K x)) = some (.type "type")) && PySem.W.keepIn K (.ref (He.ga K x)))))
theorem oexGB_ok {K : PySem.W.Frag} {x : Str} (h : oexGB x K = true) : OexG K (He.ga K x) := by
  obtain ⟨q, h⟩ := He.ba h
  obtain ⟨h1, h⟩ := He.ba h
  obtain ⟨h2, h⟩ := He.ba h
  obtain ⟨h3, h4⟩ := He.ba h
  refine ⟨?_, He.eqO_ok h1, of_decide_eq_true h2, of_decide_eq_true h3, h4⟩
  split at q
  · rename_i dd cd sl ho
    split at q
    · rename_i C' bm k0 k1 k2 k3 n k5 hm hs
      simp only [Bool.and_eq_true, Bool.or_eq_true, beq_iff_eq, Bool.not_eq_true'] at q
      obtain ⟨⟨⟨e1, hdel⟩, hdc⟩, ht⟩ := q
      obtain ⟨cs, ec⟩ := OEG.strip_eq bm
      obtain ⟨nm, bs, mro, ns, qn, hd, sn, sub, ab, col, del⟩ := cd
      dsimp only at hm hdel hdc
      subst hm hdel hdc
      have hsl : sl = #[k0, k1, k2, k3, some (.builtin n), k5] := by
        obtain ⟨l⟩ := sl
        simp only at hs
        rw [hs]
      subst hsl
      rw [e1] at ho
      rcases ht with ⟨e2, et⟩ | ⟨e2, et⟩
      · rw [et] at ec
        subst e2 ec
        exact ⟨_, _, _, _, OEG.baf_A, _, _, _, _, _, _, _, _, _, _, _, _, _, _, _, ho⟩
      · rw [et] at ec
        subst e2 ec
        exact ⟨_, _, _, _, OEG.baf_L, _, _, _, _, _, _, _, _, _, _, _, _, _, _, _, ho⟩
    · cases q
  · cases q
end WB
namespace WB
open PySem PySem.Spec PyProof.Rows L2
section
variable {X : Cx} {p pos pos' : Pos}
theorem mk_endN {pins : List (Addr × Obj)} {σ : L2.St} {H1 H2 : Hp} {hp hp2 h2 : Heap} {g1 g2 : Array GenState} {d1 d2 : Drawn} {t1 t2 : Nat} {os1 os2 : OsState} {a C : Addr} (I1 : Inv X pins σ H1 ⟨hp, g1, d1, t1, os1⟩)
    (ha : hp.objs.size ≤ a) (k : ∀ b o, hp.get? b = some o → hp2.get? b = some o) (un : Un (frs X.stack) [] (upd H1 a (exo a C none)) H2 hp2 h2) (hok : HOk X.prog X.w H2 h2) (ho : os2 = os1) (hb : AllBare g2)
    (ea : H2 a = some (exo a C none)) :
    ∃ (t0 : Addr) (G : Heap), Inv X pins σ (del H2 a) ⟨G, g2, d2, t2, os2⟩ ∧ (∀ b o, G.get? b = some o → h2.get? b = some o) ∧ G.get? a = none ∧
      h2.get? a = some ({ cls := .ref C, dict := none, data := .fields #[.ref t0, .none, .none, .none, .bool false, .none] } : Obj) ∧ (del H2 a) a = none := by
  obtain ⟨t0, hoe⟩ := exo_at hok ea
  have hn : H1 a = none := I1.hok.fresh ha
  obtain ⟨G, g1', g2'⟩ := restrict h2 fun b => decide (b ≠ a)
  have gk : ∀ b, b ≠ a → G.get? b = h2.get? b := fun b hb => g1' b (decide_eq_true hb)
  have ge : G.get? a = none := g2' a (by simp)
  have nha : ∀ {b : Addr} {o : Obj}, hp.get? b = some o → b ≠ a := fun {b o} z => Nat.ne_of_lt (Nat.lt_of_lt_of_le (Heap.lt_size z) ha)
  have up : ∀ {b : Addr}, b ≠ a → H1 b = none → upd H1 a (exo a C none) b = none := fun {b} hb n => by rw [upd_ne hb]; exact n
  have U : Un (frs X.stack) [] H1 (del H2 a) hp G := {
    keep := fun b o z n hf hx => by
      rw [gk b (nha z)]
      exact un.keep b o (k b o z) (up (nha z) n) hf hx
    slot := fun b o z n hf hx => by
      rw [gk b (nha z)]
      exact un.slot b o (k b o z) (up (nha z) n) hf hx
    free := fun b o z n hx => by
      rw [del_ne (nha z)]
      exact un.free b o (k b o z) (up (nha z) n) hx
    there := fun b o z hx => by
      rw [gk b (nha z)]
      exact un.there b o (k b o z) hx
    tups := fun b xs z => by
      rw [del_ne (ne_of_none z hn)]
      exact un.tups b xs (by rw [upd_ne (ne_of_none z hn)]; exact z)
    frzs := fun b o v z => by
      rw [del_ne (ne_of_none z hn)]
      exact un.frzs b o v (by rw [upd_ne (ne_of_none z hn)]; exact z)
    tbls := fun b ps z => by
      rw [del_ne (ne_of_none z hn)]
      exact un.tbls b ps (by rw [upd_ne (ne_of_none z hn)]; exact z) }
  have hok3 : HOk X.prog X.w (del H2 a) G := fun b o z => by
    have hba : b ≠ a := fun e => by
      rw [e, del_same] at z
      cases z
    rw [del_ne hba] at z
    have noa : ∀ {c : Addr}, H2 c = some (.own b) → c ≠ a := fun {c} hc => at_ne ea hc exo_own
    exact (hok b o z).stay (fun c v hc y => by
        have hca : c ≠ a := by
          rcases hc with hc | hc
          · rw [hc]
            exact hba
          · exact noa hc
        rw [gk c hca]
        exact y)
      (fun c hc => by rw [del_ne (noa hc)]; exact hc) (fun c xs hc => by rw [del_ne (at_ne ea hc exo_tup)]; exact hc)
  have J : Inv X pins σ (del H2 a) ⟨G, g2, d2, t2, os2⟩ := I1.call' (ch := []) ho U hok3 hb (fun b z => absurd z (by simp))
  refine ⟨t0, G, J, fun b o z => ?_, ge, hoe, del_same⟩
  by_cases hba : b = a
  · rw [hba, ge] at z
    cases z
  · exact (gk b hba).symm.trans z
def tMkN (C : Addr) (sp : Sp) : L2.St → Hp → XK → Prop := fun σ H Q => ∀ a, H a = none → sp [.ref a] (upd H a (exo a C none)) (fun v H2 => v = .non ∧ H2 a = some (exo a C none) ∧ Q (.ref C) none (del H2 a)) (fun _ _ _ => False)
theorem pmk_oex0 {CX : CXT} {x : Str} {C fI : Addr} {k : Nat} {fd : FuncData} {ps : List Str} {sp : Sp} (T : OexG X.K C) (iC : PySem.W.findIn X.K (.ref C) "__init__" = some (some (.ref fI))) (tI : PySem.W.typeIn X.K (.ref fI) = some (.type "function"))
    (F1 : FnOk X.prog X.w X.K X.mg X.base CX k fI fd ps sp) (hr : Room (k + 1) X.A) (hb : Binds X.K fd ps []) (hx : Passes CX X (fun _ _ _ => False)) (hg : Gl X x) (hm : X.mg x = some (.ref C))
    (hdb : (x == ("__debug__" : Str)) = false := by decide) :
    L2N.PMk X (.Call (.Name x p) [] [] pos) (tMkN C sp) := by
  intro pins s σ H Q I h
  obtain ⟨B, nI, iI, bb, F0, nm, q, N, bs, cs, sn, sub, ab, col, dd, k0, k1, k2, k3, k5, hC⟩ := T.cls
  refine wpAny_Call_Name_kw (ld_glob I hg hm ?_ hdb)
  refine PySem.W.callWith_K0 I.kIn T.kC ?_
  show wpAny _ _ (call (.ref C) []) _ _ _
  obtain ⟨hp, g, dr, tk, os⟩ := s
  have big : hp.objs.size ≤ hp.objs.size + 1 := Nat.le_succ _
  have start := h (hp.objs.size + 1) (I.hok.fresh big)
  have kk : ∀ b o, hp.get? b = some o → ((hp.push (PySem.W.kdv_tup [])).push (PySem.HandSPX.excO C hp.objs.size)).get? b = some o := fun b o e => Heap.get?_push_of_some _ (Heap.get?_push_of_some _ e)
  have hget : ((hp.push (PySem.W.kdv_tup [])).push (PySem.HandSPX.excO C hp.objs.size)).get? (hp.objs.size + 1) = some (PySem.HandSPX.excO C hp.objs.size) := by heap_get
  have I2 := I.laid (t' := tk) (a := hp.objs.size + 1) (o := exo (hp.objs.size + 1) C none) (h' := (hp.push (PySem.W.kdv_tup [])).push (PySem.HandSPX.excO C hp.objs.size)) kk big (exo_ok hget)
  have r2 : Vals [V.ref (hp.objs.size + 1)] [Value.ref (hp.objs.size + 1)] := .cons rfl .nil
  have hl : ([Value.ref (hp.objs.size + 1)] ++ []).length = ps.length := by
    have e := r2.length
    rw [F1.len _ _ _ _ start] at e
    rw [List.append_nil]
    exact e.symm
  have hbb := hb _ [Value.ref (hp.objs.size + 1)] I2.kIn hl
  rw [List.append_nil] at hbb
  refine wpAny_call (PySem.HandSPX.call_own F0.b (fun Y => OEG.cont_refs Y cs) (I.kIn _ _ hC) (PySem.W.looks_findIn I.kIn iC) (fun self => PySem.W.bind_fn I.kIn self tI) (by simp)
    (codeAny_mono (F1.run _ X.stack _ _ ⟨[Value.ref (hp.objs.size + 1)], []⟩ [Value.ref (hp.objs.size + 1)] _ _ (fun _ _ _ => False) (hr.make C [] []) (I2.env0.make C [] []) hbb r2 start) fun r s' hq' => ?_))
  cases r with
  | error er => exact hx pins σ _ _ er s' I2 hq'
  | ok fl =>
    cases fl with
    | ret u =>
      obtain ⟨v, H2, os2, bare2, un2, hok2, rv, ev, ea, q2⟩ := hq'
      subst ev
      obtain ⟨h2, g2, d2, t2, os'⟩ := s'
      obtain ⟨t0, G, J, kG, ge, hoe, na⟩ := mk_endN (d2 := d2) (t2 := t2) I big kk un2 hok2 os2 bare2 ea
      exact ⟨rv, _, _, _, ⟨G, g2, d2, t2, os'⟩, _, .ref C, none, rfl, J, kG, ge, hoe, ⟨rfl, rfl, fun vs e => by cases e; rfl⟩, rfl, rfl, na, rfl, bare2, raises_own T.exC T.tyC, q2⟩
    | next => exact False.elim hq'
    | brk => exact False.elim hq'
    | cont => exact False.elim hq'
end
def sp_excN : Sp := fun vs H Q _ => ∃ a : Addr, vs = [.ref a] ∧ Q .non H
def tRsN (C : Addr) (E : XK) : TS := fun _ σ H => tMkN C sp_excN σ H E
structure ExcN (K : PySem.W.Frag) (C fI : Addr) : Prop where
  ox : OexG K C
  ini : PySem.W.findIn K (.ref C) "__init__" = some (some (.ref fI))
  fn : PySem.W.typeIn K (.ref fI) = some (.type "function")
  xf : XfC K C
def excNB (x : Str) : PySem.W.Frag → Bool := fun K => oexGB x K && (He.eqO (PySem.W.findIn K (.ref (He.ga K x)) "__init__") (some (some (.ref (He.ma K (He.ga K x) "__init__")))) &&
  (decide (PySem.W.typeIn K (.ref (He.ma K (He.ga K x) "__init__")) = some (.type "function")) && xfB K (He.ga K x)))
theorem excNB_ok {K : PySem.W.Frag} {x : Str} (h : excNB x K = true) : ExcN K (He.ga K x) (He.ma K (He.ga K x) "__init__") := by
  obtain ⟨h1, h⟩ := He.ba h
  obtain ⟨h3, h⟩ := He.ba h
  obtain ⟨h4, h5⟩ := He.ba h
  exact ⟨oexGB_ok h1, He.eqO_ok h3, of_decide_eq_true h4, xfB_ok h5⟩
section
variable {X : Cx} {p pos pos' : Pos}
theorem ps_rsN {x : Str} {C fI : Addr} {k : Nat} {fd : FuncData} {ps : List Str} {E : XK} (hc : X.calm = true) (T : ExcN X.K C fI) (F1 : FnOk X.prog X.w X.K X.mg X.base CX0 k fI fd ps sp_excN) (hr : Room (k + 1) X.A) (hb : Binds X.K fd ps [])
    (tk : L2N.Takes X fun cls d _ H => E cls d H) (hg : Gl X x) (hm : X.mg x = some (.ref C)) (hdb : (x == ("__debug__" : Str)) = false := by decide) :
    PS X (.Raise (some (.Call (.Name x p) [] [] pos)) none pos') (tRsN C E) :=
  L2N.ps_raise (pos := pos') hc tk (pmk_oex0 (x := x) (p := p) (pos := pos) T.ox T.ini T.fn F1 hr hb pass0 hg hm hdb)
end
theorem s_rsN {C : Addr} {E : XK} {D : L2.Ends} {σ : L2.St} {H : Hp} (h : E (.ref C) none H) : tRsN C E D σ H := by
  intro a hn
  refine ⟨a, rfl, rfl, upd_same, ?_⟩
  have e : del (upd H a (exo a C none)) a = H := by
    funext b
    by_cases hb : b = a
    · rw [hb, del_same, hn]
    · rw [del_ne hb, upd_ne hb]
  rw [e]
  exact h
def t_excN : TS := tNext
theorem pure_excN {vs : List V} {H : Hp} {Q : VK} {E : XK} {N : List Str} (h : sp_excN vs H Q E) : t_excN { nx := fun _ H' => Q .non H', rt := Q } (start N vs) H := h.choose_spec.2
end WB
namespace WB
open PySem PySem.Spec PyProof.Rows L2
structure NoBin (K : PySem.W.Frag) (C2 : Addr) (nm : String) : Prop where
  cl : ∃ cd, PySem.W.clsIn K C2 = some cd ∧ cd.mro = [.ref C2, .type "object"]
  n1 : PySem.W.findIn K (.ref C2) (PySem.dunder nm) = some none
  n2 : PySem.W.findIn K (.ref C2) (dunderR nm) = some none
  o1 : PySem.W.findIn K (.type "object") (PySem.dunder nm) = some none
  o2 : PySem.W.findIn K (.type "object") (dunderR nm) = some none
def noBinB (x : Str) (nm : String) : Fx := fun K => (match PySem.W.clsIn K (He.ga K x) with
  | some cd => cd.mro == [.ref (He.ga K x), .type "object"]
  | none => false) && (He.eqO (PySem.W.findIn K (.ref (He.ga K x)) (PySem.dunder nm)) (some none) && (He.eqO (PySem.W.findIn K (.ref (He.ga K x)) (dunderR nm)) (some none) && (He.eqO (PySem.W.findIn K (.type "object") (PySem.dunder nm)) (some none) && He.eqO (PySem.W.findIn K (.type "object") (dunderR nm)) (some none))))
theorem noBinB_ok {K : Fr'} {x : Str} {nm : String} (h : noBinB x nm K = true) : NoBin K (He.ga K x) nm := by
  obtain ⟨h1, h⟩ := He.ba h
  obtain ⟨h2, h⟩ := He.ba h
  obtain ⟨h3, h⟩ := He.ba h
  obtain ⟨h4, h5⟩ := He.ba h
  refine ⟨?_, He.eqO_ok h2, He.eqO_ok h3, He.eqO_ok h4, He.eqO_ok h5⟩
  split at h1
  · exact ⟨_, by assumption, eq_of_beq h1⟩
  · cases h1
open PySem.W in
theorem fills_no {M : Model} {h : Heap} {K : Frag} {C : Addr} {nm : String} (X : K.In h) (S : NoBin K C nm) : Looks M h (fillsNumberSlot (.ref C) nm) false := by
  obtain ⟨cd, hc, hm⟩ := S.cl
  intro A Q E s k q
  unfold fillsNumberSlot
  refine wpAny_bind ((looks_clsIn X hc).andThen (f := fun cd => pure cd.mro) .now A _ E s k ?_)
  rw [hm, List.anyM_cons]
  refine wpAny_bind ?_
  show wpAny M A (List.anyM _ [PySem.dunder nm, dunderR nm]) _ _ _
  rw [List.anyM_cons]
  refine wpAny_bind (wpAny_bind (looks_findIn X S.n1 A _ E s k ?_))
  refine wpAny_pure ?_
  rw [if_neg (by decide), List.anyM_cons]
  refine wpAny_bind (wpAny_bind (looks_findIn X S.n2 A _ E s k ?_))
  refine wpAny_pure ?_
  rw [if_neg (by decide)]
  refine wpAny_pure ?_
  rw [if_neg (by decide), List.anyM_cons]
  refine wpAny_bind ?_
  show wpAny M A (do
    let f ← typeLookup (.type "object") (PySem.dunder nm)
    let r ← typeLookup (.type "object") (dunderR nm)
    return (f.isSome && !isSeqSlot f) || (r.isSome && !isSeqSlot r)) _ _ _
  refine wpAny_bind (looks_findIn X S.o1 A _ E s k ?_)
  refine wpAny_bind (looks_findIn X S.o2 A _ E s k ?_)
  refine wpAny_pure ?_
  rw [if_neg (by decide)]
  exact wpAny_pure q
open PySem.W in
theorem bin_other {prog : Program} {w : World} {A : Around} {E : Value → Shared → Prop} {s : Shared} {K : Frag} {x C C2 L f : Addr} {h₀ : Heap} {m : Str → Option Value} {ox : Obj} {od : Option Obj} {op : Operator} {b : Value} {Q : Value → Shared → Prop} (F : Fr h₀ L s.heap m) (X₀ : K.In h₀) (I : InstAt s.heap x ox C od) (hb : Looks (model prog w) s.heap (typeOf b) (.ref C2)) (hne : C ≠ C2) (hc : selfFirst K C = true)
    (hs : findIn K (.ref C) (PySem.dunder op.info.2) = some (some (.ref f))) (hf : isFn K (.ref f) = true) (S : NoBin K C2 op.info.2)
    (h : wpAny (model prog w) A (call (.ref f) [.ref x, b]) (PySem.W.CmpBack Q) E s) : wpAny (model prog w) A (binaryOp op (.ref x) b) Q E s := by
  have X := X₀.keeps F.keep
  obtain ⟨cd, rest, hcd, hm⟩ := ksp_first hc
  rcases hi : op.info with ⟨sy, nm⟩
  rw [hi] at hs S
  dsimp only at hs S
  have told := ksp_try X I hs hf h
  obtain ⟨hh, g, d, tt, os⟩ := s
  have tx : Looks (model prog w) hh (typeOf (.ref x)) (.ref C) := I.type
  have fx : Looks (model prog w) hh (fillsNumberSlot (.ref C) nm) true := fills_K X hcd hm hs
  have fb : Looks (model prog w) hh (fillsNumberSlot (.ref C2) nm) false := fills_no X S
  have ne : (Value.ref C == Value.ref C2) = false := by
    cases e : (Value.ref C == Value.ref C2) with
    | false => rfl
    | true =>
      have := beq_iff_eq.mp e
      injection this with e2
      exact absurd e2 hne
  simp only [binaryOp, hi]
  refine wpAny_holding (wpAny_bind ?_)
  unfold binaryOp1
  refine wpAny_bind (tx.at (wpAny_bind (hb.at (wpAny_bind (fx.at ?_)))))
  simp only [ne, Bool.false_eq_true, if_false]
  ksp_lk
  refine wpAny_mono told (fun r s' hr' => ?_) fun _ _ e => e
  obtain ⟨v, rfl, hq⟩ := hr'
  ksp_lk
  exact hq
variable {X : Cx} {CX : CXT} {k : Nat} {f C C2 : Addr} {fd : FuncData} {ps : List Str} {sp : Sp} {E : XK}
def rBinN (C C2 : Addr) (sp : Sp) (E : XK) : R2 := fun x y H Q => ∃ a dx fs b dy gs, x = .ref a ∧ H a = some (.ins C dx fs) ∧ y = .ref b ∧ H b = some (.ins C2 dy gs) ∧ sp [x, y] H Q E
theorem op_binO_other {op : Operator} (S1 : Spec1 X.K C (PySem.dunder op.info.2) f) (sf : PySem.W.selfFirst X.K C = true) (ne : C ≠ C2) (S2 : NoBin X.K C2 op.info.2) (F : FnOk X.prog X.w X.K X.mg X.base CX k f fd ps sp) (hr : Room k X.A) (hb : Binds X.K fd ps []) (hx : Passes CX X E) : OpR X (binaryOp op) (rBinN C C2 sp E) := by
  intro pins s σ H x y v u Q I rx ry h
  obtain ⟨a, dx, fs, b, dy, gs, rfl, ha, rfl, hb', h⟩ := h
  cases rx
  cases ry
  obtain ⟨ox, od, J⟩ := inst_at I ha
  obtain ⟨ox2, od2, J2⟩ := inst_at I hb'
  obtain ⟨m, hF⟩ := I.fr
  refine bin_other hF I.ok.mod.kin J J2.type ne sf S1.at_ S1.fn S2 (wpAny_mono (run_sub (dvs := []) (vs := [.ref a, .ref b]) F ⟨hr, rfl⟩ hb .nil hx I (.cons rfl (.cons rfl .nil)) h) (fun v s' hv => cmpBack hv) fun _ _ z => z)
def rBinVN (C C2 : Addr) (sp : Sp) (E : XK) (K : PySem.W.Frag) : R2 := fun x y H Q => rBinV C sp E K x y H Q ∨ rBinN C C2 sp E x y H Q
theorem OpR.or' {o : Value → Value → Sem Value} {r1 r2 : R2} (h1 : OpR X o r1) (h2 : OpR X o r2) : OpR X o (fun x y H Q => r1 x y H Q ∨ r2 x y H Q) := by
  intro pins s σ H x y v u Q I rx ry hq
  rcases hq with hq | hq
  · exact h1 pins s σ H x y v u Q I rx ry hq
  · exact h2 pins s σ H x y v u Q I rx ry hq
theorem op_binVN {op : Operator} (S1 : BinTs X.K C op.info.2 f) (ne : C ≠ C2) (S2 : NoBin X.K C2 op.info.2) (F : FnOk X.prog X.w X.K X.mg X.base CX k f fd ps sp) (hr : Room k X.A) (hb : Binds X.K fd ps []) (hx : Passes CX X E) : OpR X (binaryOp op) (rBinVN C C2 sp E X.K) :=
  OpR.or' (op_binO_any S1 F hr hb hx) (op_binO_other (S1 "int" (by decide)).sp (S1 "int" (by decide)).sf ne S2 F hr hb hx)
def kitTB (x : Str) : Fx := fun K => (["tuple", "list", "dict", "bool"] : List String).all fun n => decide (PySem.W.kitOne K (.ref (He.ga K x)) (.type n) = some false)
theorem kitTB_ok {K : Fr'} {x : Str} (h : kitTB x K = true) : ∀ n ∈ (["tuple", "list", "dict", "bool"] : List String), PySem.W.kitOne K (.ref (He.ga K x)) (.type n) = some false := fun n hn => of_decide_eq_true (List.all_eq_true.mp h n hn)
end WB
namespace WB
open PySem PySem.Spec PyProof.Rows L2 HotX L2H
section
variable {prog : Program} {w : World} {A : Around} {E : Value → Shared → Prop} {s : Shared}
theorem list_endH {it l x1 : Addr} {i : Nat} {items} {Q : Option Value → Shared → Prop} (hot : HotAt A x1 s.heap) (nx : x1 ≠ it) (hit : s.heap.IsListIter it l i) (hl : s.heap.IsList l items) (hx : items[i]? = none)
    (hQ : ∀ h', Heap.ExtBut it s.heap h' → Q none { s with heap := h' }) : wpAny (model prog w) A (pyNext (.ref it)) Q E s := by
  obtain ⟨o, ho, hc, hd⟩ := id hit
  obtain ⟨ol, hol, _, nl, hdl⟩ := hl
  obtain ⟨hh, o1, vs1, h1, d1, c1⟩ := hot
  unfold pyNext
  refine wpAny_bind (wpAny_attempt (wpAny_callSpecial?_slot (name := Str.ofString "__next__") hit.typeIs slot_listiter_next
    (wpAny_call_entry slot_listiter_next hit.typeIs entry_listiter_next ?_ (args_listiter_next _))))
  show wpAny _ _ (field (.ref it) 0 >>= _) _ _ s
  refine wpAny_bind (wpAny_field ho hd (x := .ref l) rfl ?_)
  show wpAny _ _ (if (Value.ref l == Value.none) = true then _ else _) _ _ s
  rw [if_neg (show ¬ ((Value.ref l == Value.none) = true) from Bool.false_ne_true)]
  show wpAny _ _ (field (.ref it) 1 >>= _) _ _ s
  refine wpAny_bind (wpAny_field ho hd (x := .int i 0) rfl ?_)
  show wpAny _ _ (seqItems? (.ref l) >>= _) _ _ s
  refine wpAny_bind (wpAny_seqItems hol hdl ?_)
  simp only [Int.toNat_natCast, hx]
  refine wpAny_bind (wpAny_rule (wpAny_bind (wpAny_setField ho hd (by simp) ?_)))
  show wpAny _ _ (newExc (.type "StopIteration") [] >>= _) _ _ _
  refine wpAny_bind ?_
  simp only [newExc, newTuple]
  refine wpAny_bind (wpAny_newObj_type ?_ (by size_fits))
  refine wpAny_bind (m := firstArgMember _ _) (wpAny_of_eq (a := Value.none) (by first | rfl | (simp only [firstArgMember]; rfl)) ?_)
  refine wpAny_newObj_type ?_ (by size_fits)
  have h1' := (Heap.get?_update_other s.heap (Obj.mapFields (·.setIfInBounds 0 .none)) (Ne.symm nx)).trans h1
  refine raiseNew_hot ⟨hh, o1, vs1, Heap.get?_push_of_some _ (Heap.get?_push_of_some _ h1'), d1, c1⟩ (Nat.ne_of_lt (Heap.lt_size (Heap.get?_push_of_some _ h1'))) (Heap.get?_push_size _ rfl) rfl (by first | (simp; done) | (simp; omega) | (simp only [Array.size_append]; simp; omega)) ?_
  refine wpAny_bind (wpAny_isInstance (T := "StopIteration") (b := true) ⟨_, Heap.get?_update_self _ (Heap.get?_push_size _ rfl) rfl, rfl⟩ isSubtype_stop ?_)
  refine wpAny_pure (hQ _ fun b o hb e => ?_)
  have e' := (Heap.get?_update_other s.heap (Obj.mapFields (·.setIfInBounds 0 .none)) (Ne.symm hb)).trans e
  rw [Heap.get?_update_other _ _ (Nat.ne_of_gt (Heap.lt_size (Heap.get?_push_of_some _ e')))]
  exact Heap.get?_push_of_some _ (Heap.get?_push_of_some _ e')
theorem tuple_endH {it l x1 : Addr} {i : Nat} {items} {Q : Option Value → Shared → Prop} (hot : HotAt A x1 s.heap) (nx : x1 ≠ it) (hit : s.heap.IsTupleIter it l i) (hl : s.heap.IsTuple l items) (hx : items[i]? = none)
    (hQ : ∀ h', Heap.ExtBut it s.heap h' → Q none { s with heap := h' }) : wpAny (model prog w) A (pyNext (.ref it)) Q E s := by
  obtain ⟨o, ho, hc, hd⟩ := id hit
  obtain ⟨ol, hol, _, nl, hdl⟩ := hl
  obtain ⟨hh, o1, vs1, h1, d1, c1⟩ := hot
  unfold pyNext
  refine wpAny_bind (wpAny_attempt (wpAny_callSpecial?_slot (name := Str.ofString "__next__") hit.typeIs F.slot_tuple_iterator_next
    (wpAny_call_entry F.slot_tuple_iterator_next hit.typeIs F.entry_tuple_iterator_next ?_ (F.args_tuple_iterator_next_1 _))))
  show wpAny _ _ (field (.ref it) 0 >>= _) _ _ s
  refine wpAny_bind (wpAny_field ho hd (x := .ref l) rfl ?_)
  show wpAny _ _ (if (Value.ref l == Value.none) = true then _ else _) _ _ s
  rw [if_neg (show ¬ ((Value.ref l == Value.none) = true) from Bool.false_ne_true)]
  show wpAny _ _ (field (.ref it) 1 >>= _) _ _ s
  refine wpAny_bind (wpAny_field ho hd (x := .int i 0) rfl ?_)
  show wpAny _ _ (seqItems? (.ref l) >>= _) _ _ s
  refine wpAny_bind (wpAny_seqItems hol hdl ?_)
  simp only [Int.toNat_natCast, hx]
  refine wpAny_bind (wpAny_rule (wpAny_bind (wpAny_setField ho hd (by simp) ?_)))
  show wpAny _ _ (newExc (.type "StopIteration") [] >>= _) _ _ _
  refine wpAny_bind ?_
  simp only [newExc, newTuple]
  refine wpAny_bind (wpAny_newObj_type ?_ (by size_fits))
  refine wpAny_bind (m := firstArgMember _ _) (wpAny_of_eq (a := Value.none) (by first | rfl | (simp only [firstArgMember]; rfl)) ?_)
  refine wpAny_newObj_type ?_ (by size_fits)
  have h1' := (Heap.get?_update_other s.heap (Obj.mapFields (·.setIfInBounds 0 .none)) (Ne.symm nx)).trans h1
  refine raiseNew_hot ⟨hh, o1, vs1, Heap.get?_push_of_some _ (Heap.get?_push_of_some _ h1'), d1, c1⟩ (Nat.ne_of_lt (Heap.lt_size (Heap.get?_push_of_some _ h1'))) (Heap.get?_push_size _ rfl) rfl (by first | (simp; done) | (simp; omega) | (simp only [Array.size_append]; simp; omega)) ?_
  refine wpAny_bind (wpAny_isInstance (T := "StopIteration") (b := true) ⟨_, Heap.get?_update_self _ (Heap.get?_push_size _ rfl) rfl, rfl⟩ isSubtype_stop ?_)
  refine wpAny_pure (hQ _ fun b o hb e => ?_)
  have e' := (Heap.get?_update_other s.heap (Obj.mapFields (·.setIfInBounds 0 .none)) (Ne.symm hb)).trans e
  rw [Heap.get?_update_other _ _ (Nat.ne_of_gt (Heap.lt_size (Heap.get?_push_of_some _ e')))]
  exact Heap.get?_push_of_some _ (Heap.get?_push_of_some _ e')
theorem key_endH {it d x1 : Addr} {i n ep : Nat} {od : Obj} {es : Array DictEntry} {Q : Option Value → Shared → Prop} (hot : HotAt A x1 s.heap) (nx : x1 ≠ it) (hit : s.heap.IsKeyIter it d i n ep) (hod : s.heap.get? d = some od) (hdd : od.data = .dict es ep)
    (hsz : es.size = n) (hge : n ≤ i) (hQ : ∀ h', Heap.ExtBut it s.heap h' → Q none { s with heap := h' }) : wpAny (model prog w) A (pyNext (.ref it)) Q E s := by
  obtain ⟨o, ho, hc, hd⟩ := id hit
  obtain ⟨hh, o1, vs1, h1, d1, c1⟩ := hot
  unfold pyNext
  refine wpAny_bind (wpAny_attempt (wpAny_callSpecial?_slot (name := Str.ofString "__next__") hit.typeIs F.slot_dict_keyiterator_next
    (wpAny_call_entry F.slot_dict_keyiterator_next hit.typeIs F.entry_dict_keyiterator_next ?_ (F.args_dict_keyiterator_next_1 _))))
  refine wpAny_bind (wpAny_pure ?_)
  refine wpAny_bind ?_
  refine wpAny_bind ?_
  first | refine wpAny_bind (wpAny_typeNameOfWhole_keyiter hit.typeIs (wpAny_pure ?_)) | refine wpAny_bind (wpAny_typeNameOf_keyiter hit.typeIs (wpAny_pure ?_))
  refine wpAny_bind (wpAny_fieldsOf ho hd ?_)
  have hown : Builtin.Dict_items.ownsTuple "dict_keyiterator" = false := by decide
  simp only [hown, Bool.false_eq_true, if_false]
  show wpAny _ _ (if (Value.ref d == Value.none) = true then _ else _) _ _ s
  rw [if_neg (show ¬ ((Value.ref d == Value.none) = true) from Bool.false_ne_true)]
  refine wpAny_bind (wpAny_pure ?_)
  refine wpAny_bind (wpAny_dictEntries hod hdd ?_)
  rw [if_neg (by rw [hsz]; simp)]
  refine wpAny_bind (wpAny_pure ?_)
  refine wpAny_bind (wpAny_dictEpoch hod hdd ?_)
  rw [if_neg (by simp)]
  refine wpAny_pure ?_
  have hge' : es.size ≤ i := by rw [hsz]; exact hge
  simp only [show ¬ ((i : Int) < 0) from by omega, if_false, Int.toNat_natCast, Array.getElem?_eq_none hge']
  refine wpAny_bind ?_
  first | refine wpAny_bind (wpAny_typeNameOfWhole_keyiter hit.typeIs (wpAny_pure ?_)) | refine wpAny_bind (wpAny_typeNameOf_keyiter hit.typeIs (wpAny_pure ?_))
  show wpAny _ _ (setField (.ref it) 0 .none >>= _) _ _ s
  refine wpAny_bind (wpAny_setField ho hd (by simp) ?_)
  show wpAny _ _ (newExc (.type "StopIteration") [] >>= _) _ _ _
  refine wpAny_bind ?_
  simp only [newExc, newTuple]
  refine wpAny_bind (wpAny_newObj_type ?_ (by size_fits))
  refine wpAny_bind (m := firstArgMember _ _) (wpAny_of_eq (a := Value.none) (by first | rfl | (simp only [firstArgMember]; rfl)) ?_)
  refine wpAny_newObj_type ?_ (by size_fits)
  have h1' := (Heap.get?_update_other s.heap (Obj.mapFields (·.setIfInBounds 0 .none)) (Ne.symm nx)).trans h1
  refine raiseNew_hot ⟨hh, o1, vs1, Heap.get?_push_of_some _ (Heap.get?_push_of_some _ h1'), d1, c1⟩ (Nat.ne_of_lt (Heap.lt_size (Heap.get?_push_of_some _ h1'))) (Heap.get?_push_size _ rfl) rfl (by first | (simp; done) | (simp; omega) | (simp only [Array.size_append]; simp; omega)) ?_
  refine wpAny_bind (wpAny_isInstance (T := "StopIteration") (b := true) ⟨_, Heap.get?_update_self _ (Heap.get?_push_size _ rfl) rfl, rfl⟩ isSubtype_stop ?_)
  refine wpAny_pure (hQ _ fun b o hb e => ?_)
  have e' := (Heap.get?_update_other s.heap (Obj.mapFields (·.setIfInBounds 0 .none)) (Ne.symm hb)).trans e
  rw [Heap.get?_update_other _ _ (Nat.ne_of_gt (Heap.lt_size (Heap.get?_push_of_some _ e')))]
  exact Heap.get?_push_of_some _ (Heap.get?_push_of_some _ e')
end
section
variable {P : Program} {w : World} {K : PySem.W.Frag} {tg : Expr}
theorem FpOk.nex {X : Cx} {pins : List (Addr × Obj)} {H : Hp} {it : Addr} (f : FpOk X pins H it) (c : HotC X) {σ : L2.St} {H0 : Hp} {s : Shared} (I : Inv X pins σ H0 s) : ∃ x1, HotAt X.A x1 s.heap ∧ x1 ≠ it := by
  obtain ⟨p, ⟨hh, v1, e1, c1⟩, hp⟩ := c
  exact ⟨p.1, ⟨hh, p.2, v1, (I.pin p (List.mem_append_left _ hp)).1, e1, c1⟩, f.2.2.2.2.2 p (List.mem_append_left _ hp)⟩
theorem turn_listH (a it : Addr) : TurnH P w K tg (Itl K a) [it] it (fun i h => h.IsListIter it a i) where
  mem := by simp
  obj := (turn_list (P := P) (w := w) (K := K) (tg := tg) a it).obj
  keep := (turn_list (P := P) (w := w) (K := K) (tg := tg) a it).keep
  item := by
    intro X hP hw hK hc i pins s σ H E I hf st hg
    subst hP hw hK
    obtain ⟨xs, x, hq, hx⟩ := hg
    obtain ⟨its, rv, p, hz⟩ := I.list hq
    obtain ⟨u, hu, ru⟩ := rv.get hx
    obtain ⟨f0, f1, f2, f3, f4, f5⟩ := hf it (by simp)
    refine wpAny_pyNext_list_item st p.isList (x := u) (by simpa using hu) fun h' st' sb => ?_
    have I1 : Inv X pins σ H { s with heap := h' } := I.turned (t' := s.toks) (fun b o hb e => (sb.2 b hb).trans e) f0 f1 f3 f4 f5
    obtain ⟨o, e, c, d⟩ := id st'
    exact ⟨u, rfl, go_of (s := { s with heap := h' }) e c d (by decide) ⟨x, H, I1, ru, ⟨rfl, fun ys hy => by rw [I.list_inj hy hq]; exact hx⟩, st', fun b hb => (hf b hb).1⟩⟩
  done := by
    intro X hP hw hK hc i pins s σ H E I hf st hg
    subst hP hw hK
    obtain ⟨xs, hq, hx⟩ := hg
    obtain ⟨its, rv, p, hz⟩ := I.list hq
    have ff := hf it (by simp)
    obtain ⟨x1, hot, nx⟩ := FpOk.nex ff hc I
    obtain ⟨f0, f1, f2, f3, f4, f5⟩ := ff
    have hl := rv.length
    exact list_endH hot nx st p.isList (by simp; omega) fun h' eb => ⟨rfl, I.turned (t' := s.toks) (fun b o hb e => eb b o hb e) f0 f1 f3 f4 f5⟩
  self := (turn_list (P := P) (w := w) (K := K) (tg := tg) a it).self
theorem turn_tupleH (a it : Addr) : TurnH P w K tg (Itt K a) [it] it (fun i h => h.IsTupleIter it a i) where
  mem := by simp
  obj := (turn_tuple (P := P) (w := w) (K := K) (tg := tg) a it).obj
  keep := (turn_tuple (P := P) (w := w) (K := K) (tg := tg) a it).keep
  item := by
    intro X hP hw hK hc i pins s σ H E I hf st hg
    subst hP hw hK
    obtain ⟨xs, x, hq, hx⟩ := hg
    obtain ⟨its, rv, p, hz⟩ := I.tuple hq
    obtain ⟨u, hu, ru⟩ := rv.get hx
    obtain ⟨f0, f1, f2, f3, f4, f5⟩ := hf it (by simp)
    refine wpAny_pyNext_tuple_item st (show s.heap.IsTuple a its.toArray from p) (x := u) (by simpa using hu) fun h' st' sb => ?_
    have I1 : Inv X pins σ H { s with heap := h' } := I.turned (t' := s.toks) (fun b o hb e => (sb.2 b hb).trans e) f0 f1 f3 f4 f5
    obtain ⟨o, e, c, d⟩ := id st'
    exact ⟨u, rfl, go_of (s := { s with heap := h' }) e c d (by decide) ⟨x, H, I1, ru, ⟨rfl, fun ys hy => by rw [I.tuple_inj hy hq]; exact hx⟩, st', fun b hb => (hf b hb).1⟩⟩
  done := by
    intro X hP hw hK hc i pins s σ H E I hf st hg
    subst hP hw hK
    obtain ⟨xs, hq, hx⟩ := hg
    obtain ⟨its, rv, p, hz⟩ := I.tuple hq
    have ff := hf it (by simp)
    obtain ⟨x1, hot, nx⟩ := FpOk.nex ff hc I
    obtain ⟨f0, f1, f2, f3, f4, f5⟩ := ff
    have hl := rv.length
    exact tuple_endH hot nx st (show s.heap.IsTuple a its.toArray from p) (by simp; omega) fun h' eb => ⟨rfl, I.turned (t' := s.toks) (fun b o hb e => eb b o hb e) f0 f1 f3 f4 f5⟩
  self := (turn_tuple (P := P) (w := w) (K := K) (tg := tg) a it).self
variable {d : Addr} {o : Obj} {es : Array DictEntry} {ep : Nat}
theorem turn_keysH {kvs : List (Key × V)} (it : Addr) (hod : o.data = .dict es ep) : TurnH P w K tg (Itk d o kvs) [it] it (fun i h => h.IsKeyIter it d i kvs.length ep) where
  mem := by simp
  obj := (turn_keys (P := P) (w := w) (K := K) (tg := tg) it hod).obj
  keep := (turn_keys (P := P) (w := w) (K := K) (tg := tg) it hod).keep
  item := by
    intro X hP hw hK hc i pins s σ H E I hf st hg
    subst hP hw hK
    obtain ⟨hd, hi⟩ := hg
    obtain ⟨f0, f1, f2, f3, f4, f5⟩ := hf it (by simp)
    obtain ⟨hs, hgd, hx, es', ep', vs, hdt, hsz, kv, hm⟩ := I.frzK hd
    obtain ⟨rfl, rfl⟩ := dict_ep hod hdt
    obtain ⟨⟨k, v⟩, hkv⟩ : ∃ p, kvs[i]? = some p := ⟨kvs[i], List.getElem?_eq_getElem hi⟩
    obtain ⟨u, hu, ru⟩ := kv_get kv hkv
    have hl : kvs.length = vs.length := Paired.length kv
    rw [hl] at st
    refine wpAny_pyNext_dict_item st hm hu fun key h' hkey st' sb => ?_
    have I1 : Inv X pins σ H { s with heap := h' } := I.turned (t' := s.toks) (fun b ob hb e => (sb.2 b hb).trans e) f0 f1 f3 f4 f5
    obtain ⟨oi, e, c, dd⟩ := id st'
    refine ⟨key, rfl, go_of (s := { s with heap := h' }) e c dd (by decide) ⟨kV k, H, I1, relV_key (show keyIs k key = true from hkey), ⟨rfl, k, v, hkv, rfl⟩, ?_, fun b hb => (hf b hb).1⟩⟩
    show h'.IsKeyIter it d (i + 1) kvs.length _
    rw [hl]
    exact st'
  done := by
    intro X hP hw hK hc i pins s σ H E I hf st hg
    subst hP hw hK
    obtain ⟨hd, hi⟩ := hg
    have ff := hf it (by simp)
    obtain ⟨x1, hot, nx⟩ := FpOk.nex ff hc I
    obtain ⟨f0, f1, f2, f3, f4, f5⟩ := ff
    obtain ⟨hs, hgd, hx, es', ep', vs, hdt, hsz, kv, hm⟩ := I.frzK hd
    obtain ⟨rfl, rfl⟩ := dict_ep hod hdt
    exact key_endH hot nx st hgd hdt hsz hi fun h' eb => ⟨rfl, I.turned (t' := s.toks) (fun b ob hb e => eb b ob hb e) f0 f1 f3 f4 f5⟩
  self := (turn_keys (P := P) (w := w) (K := K) (tg := tg) it hod).self
theorem turn_keysTH {kvs : List (List Key × V)} (it : Addr) (hod : o.data = .dict es ep) : TurnH P w K tg (Itkt d o kvs) [it] it (fun i h => h.IsKeyIter it d i kvs.length ep) where
  mem := by simp
  obj := (turn_keysT (P := P) (w := w) (K := K) (tg := tg) it hod).obj
  keep := (turn_keysT (P := P) (w := w) (K := K) (tg := tg) it hod).keep
  item := by
    intro X hP hw hK hc i pins s σ H E I hf st hg
    subst hP hw hK
    obtain ⟨hd, hi⟩ := hg
    obtain ⟨f0, f1, f2, f3, f4, f5⟩ := hf it (by simp)
    obtain ⟨hs, hgd, hx, es', ep', hdt, hsz, ent⟩ := I.frzT hd
    obtain ⟨rfl, rfl⟩ := dict_ep hod hdt
    obtain ⟨⟨k, v⟩, hkv⟩ : ∃ p, kvs[i]? = some p := ⟨kvs[i], List.getElem?_eq_getElem hi⟩
    obtain ⟨en, q, hen, hkey, hq⟩ := ent i k v hkv
    refine next_key_item st hgd hdt hsz hen fun h' st' sb => ?_
    have I1 : Inv X pins σ H { s with heap := h' } := I.turned (t' := s.toks) (fun b ob hb e => (sb.2 b hb).trans e) f0 f1 f3 f4 f5
    obtain ⟨oi, e, c, dd⟩ := id st'
    exact ⟨en.key, rfl, go_of (s := { s with heap := h' }) e c dd (by decide) ⟨.ref q, H, I1, hkey, ⟨rfl, k, v, q, hkv, rfl, hq⟩, st', fun b hb => (hf b hb).1⟩⟩
  done := by
    intro X hP hw hK hc i pins s σ H E I hf st hg
    subst hP hw hK
    obtain ⟨hd, hi⟩ := hg
    have ff := hf it (by simp)
    obtain ⟨x1, hot, nx⟩ := FpOk.nex ff hc I
    obtain ⟨f0, f1, f2, f3, f4, f5⟩ := ff
    obtain ⟨hs, hgd, hx, es', ep', hdt, hsz, ent⟩ := I.frzT hd
    obtain ⟨rfl, rfl⟩ := dict_ep hod hdt
    exact key_endH hot nx st hgd hdt hsz hi fun h' eb => ⟨rfl, I.turned (t' := s.toks) (fun b ob hb e => eb b ob hb e) f0 f1 f3 f4 f5⟩
  self := (turn_keysT (P := P) (w := w) (K := K) (tg := tg) it hod).self
end
section
variable {X : Cx} {tg : Expr}
theorem pi_oneH {pins : List (Addr × Obj)} {σ : L2.St} {H : Hp} {s : Shared} {R : It → Hp → Prop} {J : It} {tn : Nat → Heap → Prop} {tk : Nat} (I : Inv X pins σ H s) (o : Obj)
    (T : TurnH X.prog X.w X.K tg J [s.heap.objs.size] s.heap.objs.size tn) (st : tn 0 (s.heap.push o)) (q : R J H) : PIEH X pins σ tg R (.ref s.heap.objs.size) { s with heap := s.heap.push o, toks := tk } := by
  refine ⟨s.heap.objs.size, [s.heap.objs.size], tn, J, H, rfl, I.kept fun b ob e => Heap.get?_push_of_some _ e, T, st, fun b hb => ?_, q⟩
  have e : b = s.heap.objs.size := by simpa using hb
  subst e
  exact I.fpOk (Nat.le_refl _) (I.hok.fresh (Nat.le_refl _))
theorem pi_listH {l : Expr} {tl : TE} (hl : PE X l tl) : PIH X tg l (iList X.K tl) := by
  refine ⟨fun pins s σ H R I h => ?_⟩
  refine thn (hl.run pins s σ H _ I h) fun v s1 ⟨x, H1, I1, r1, q1⟩ => ?_
  obtain ⟨a, e, ⟨xs, hq⟩, q⟩ := q1
  subst e
  cases r1
  obtain ⟨its, rv, p, hz⟩ := I1.list hq
  exact wpAny_pyIter_list p.isList (pi_oneH (tk := s1.toks) I1 _ (turn_listH a _) ⟨_, Heap.get?_push_size _ rfl, rfl, rfl⟩ q)
theorem pi_tupH {l : Expr} {tl : TE} (hl : PE X l tl) : PIH X tg l (iTup X.K tl) := by
  refine ⟨fun pins s σ H R I h => ?_⟩
  refine thn (hl.run pins s σ H _ I h) fun v s1 ⟨x, H1, I1, r1, q1⟩ => ?_
  obtain ⟨a, e, ⟨xs, hq⟩, q⟩ := q1
  subst e
  cases r1
  obtain ⟨its, rv, p, hz⟩ := I1.tuple hq
  exact wpAny_pyIter_tuple (show s1.heap.IsTuple a its.toArray from p) (pi_oneH (tk := s1.toks) I1 _ (turn_tupleH a _) ⟨_, Heap.get?_push_size _ rfl, rfl, rfl⟩ q)
theorem pi_keysH {e : Expr} {td : TE} (he : PE X e td) : PIH X tg e (iKeys td) := by
  refine ⟨fun pins s σ H R I h => ?_⟩
  refine thn (he.run pins s σ H _ I h) fun u s1 ⟨x, H1, I1, rx, d, o, ex, q⟩ => ?_
  subst ex
  obtain rfl : u = Value.ref d := rx
  rcases q with ⟨kvs, hd, q⟩ | ⟨kvs, hd, q⟩
  · obtain ⟨hs, hgd, hx, es, ep, vs, hdt, hsz, kv, hm⟩ := I1.frzK hd
    refine iter_keys hs hgd hx hdt (pi_oneH (tk := s1.toks) I1 _ (turn_keysH _ hdt) ⟨_, Heap.get?_push_size _ rfl, rfl, ?_⟩ q)
    rw [hsz] <;> rfl
  · obtain ⟨hs, hgd, hx, es, ep, hdt, hsz, ent⟩ := I1.frzT hd
    refine iter_keys hs hgd hx hdt (pi_oneH (tk := s1.toks) I1 _ (turn_keysTH _ hdt) ⟨_, Heap.get?_push_size _ rfl, rfl, ?_⟩ q)
    rw [hsz] <;> rfl
end
end WB
namespace WB
open PySem PySem.Spec PyProof.Rows L2 HotX L2H
abbrev blkH (X : Cx) (p : Addr × Obj) (s : Shared) (H : Hp) (scope : Scope) (cenv : Env) (fp : List Addr) : Cx := (X.blk s H scope cenv fp).tr [p] fun _ _ => False
theorem blkH_of {X : Cx} {p : Addr × Obj} {pins : List (Addr × Obj)} {σ σ' : L2.St} {H : Hp} {s s' : Shared} {scope : Scope} {cenv : Env} {fp : List Addr} (I : Inv X pins σ H s) (hp : p ∈ X.pn) (hf : ∀ b ∈ fp, p.1 ≠ b) (I' : Inv (X.blk s H scope cenv fp) [] σ' H s') : Inv (blkH X p s H scope cenv fp) [] σ' H s' := by
  obtain ⟨p1, p2, p3, p4, p5⟩ := I.pin p (List.mem_append_left _ hp)
  refine ⟨I'.ok.toTry _ _, I'.os, I'.bare, I'.base, I'.loc, I'.cell, I'.free, I'.freeC, fun q hq => ?_, I'.hok, I'.len⟩
  rw [show q = p by simpa using hq]
  have nf : p.1 ∉ frs X.stack := by
    rcases I.ok.stk with e | ⟨e, hl⟩
    · rw [e]; exact p4
    · rw [e]
      unfold frs
      rw [List.filterMap_cons, hl]
      intro z
      rcases List.mem_cons.mp z with z | z
      · exact p3 z
      · exact p4 z
  have ab : s.heap.objs.size ≤ cenv.locals := I'.ok.above
  have lt := Heap.lt_size p1
  exact ⟨I'.base.keep p.1 p.2 p1 p2 nf (fun z => hf _ z rfl), p2, fun z => absurd (Nat.lt_of_lt_of_le lt ab) (by rw [show p.1 = cenv.locals from z]; exact Nat.lt_irrefl _), nf, p5⟩
section
variable {X : Cx}
theorem lc_coreH {p : Addr × Obj} {pins : List (Addr × Obj)} {s : Shared} {σ : L2.St} {H : Hp} {Q : VK} {elt tg iter : Expr} {ifs : List Expr} {scope : Scope} {own : List (Str × Nat)} {pos pos' : Pos} {wi : TI} {g : TG} {tt : TT} {te : TE} {use : Option (Value → Sem Unit)} {Qf : Value → Shared → Prop}
    (hot : Hot1 X.A p) (hp : p ∈ X.pn) (hN : X.N.Nodup) (I : Inv X pins σ H s) (hi : PIH X tg iter wi) (ok : BlkOk X.N X.env.scope scope own)
    (hg : ∀ (s : Shared) (H : Hp) (C : Addr) (cl : List (Str × Addr)) (fp : List Addr), PG (blkH X p s H scope (compEnvC scope cl C X.env) fp) tg g) (ht : ∀ (s : Shared) (H : Hp) (C : Addr) (cl : List (Str × Addr)) (fp : List Addr), PTs (blkH X p s H scope (compEnvC scope cl C X.env) fp) ifs tt)
    (he : ∀ (s : Shared) (H : Hp) (C : Addr) (cl : List (Str × Addr)) (fp : List Addr), PE (blkH X p s H scope (compEnvC scope cl C X.env) fp) elt te) (hs : ∀ x, foldedSetIterable iter X.env x = pure x)
    (h : tLc wi g tt te (own.map (·.2)) σ H Q)
    (hRR : ∀ D C s' m H', Inv X pins σ H' s' → Q (.ref D) H' → s'.heap.Ns C m → FpOk X pins H' C → compPost (model X.prog X.w) X.A X.xe use Qf (.ref D) C (.ok .next) s') :
    wpAny (model X.prog X.w) X.A (comprehension (.ListComp elt [⟨tg, iter, ifs, 0⟩] scope pos) scope X.env pos' (newList []) false (eval iter X.env) use) Qf X.xe s := by
  have hfree : ∀ y ∈ scope.names, y.2 = .free → ∃ c, X.env.cells.lookup y.1 = some c := fun y hy e => by
    rcases ok.free y hy e with k | k
    · exact I.ok.has _ (.inl k)
    · exact I.ok.has _ (.inr k)
  refine wpAny_comprehension_free (use := use) rfl hs (closure_ok hfree) ok.kind (fun y hy e => by rw [ok.uniq y hy, e])
    (thn (hi.run pins s σ H _ I h) fun xv s1 hx => thn hx fun itv s2 h2 => ?_)
  obtain ⟨it, fp, tn, J, H2, e, I2, T, st2, f2, q⟩ := h2
  subst e
  refine wpAny_newObj_type (newEnv_comp ?_) (by show 0 ≤ sizeLine; decide)
  generalize hD : s2.heap.objs.size = D
  have hDn : H2 D = none := I2.hok.fresh (Nat.le_of_eq hD)
  obtain ⟨W, ⟨m0, w0⟩, turn⟩ := q D hDn
  -- the new list
  generalize hs3 : ({ s2 with heap := s2.heap.push { cls := .type "list", data := .seq ([] : List Value).toArray } } : Shared) = s3
  have I3 : Inv X pins σ (upd H2 D (.lst [])) s3 := by
    rw [← hs3]
    refine I2.laid (t' := s2.toks) (fun b o e => Heap.get?_push_of_some _ e) (Nat.le_of_eq hD) ⟨Nat.zero_le _, [], 0, .nil, ?_⟩
    rw [← hD]
    exact Heap.get?_push_size _ rfl
  have h3 : s3.heap = s2.heap.push { cls := .type "list", data := .seq ([] : List Value).toArray } := by rw [← hs3]
  have sz : ∀ b ∈ fp, b < s2.heap.objs.size := fun b hb => by
    obtain ⟨o, e, _⟩ := T.obj _ _ st2 b hb
    exact Heap.lt_size e
  have f3 : ∀ b ∈ fp, FpOk X pins (upd H2 D (.lst [])) b ∧ b < s3.heap.objs.size := fun b hb => by
    have hlt := sz b hb
    refine ⟨⟨?_, (f2 b hb).2⟩, by rw [h3, Heap.size_push]; exact Nat.lt_succ_of_lt hlt⟩
    rw [upd_ne (by rw [← hD]; exact Nat.ne_of_lt hlt)]
    exact (f2 b hb).1
  have st3 : tn 0 s3.heap := T.keep _ _ _ st2 fun b _ o e => by rw [h3]; exact Heap.get?_push_of_some _ e
  have I4 := blkH_of I3 hp (fun b hb => (f2 b hb).2.2.2.2.2 p (List.mem_append_left _ hp)) (block_start I3 ok hN f3)
  have pg := hg s3 (upd H2 D (.lst [])) s3.heap.objs.size (cellsFrom (s3.heap.objs.size + 1) scope.names (cloFrom X.env.cells scope.names [])) fp
  have pt := ht s3 (upd H2 D (.lst [])) s3.heap.objs.size (cellsFrom (s3.heap.objs.size + 1) scope.names (cloFrom X.env.cells scope.names [])) fp
  have pe := he s3 (upd H2 D (.lst [])) s3.heap.objs.size (cellsFrom (s3.heap.objs.size + 1) scope.names (cloFrom X.env.cells scope.names [])) fp
  show codeAny _ _ (.compStart (.ListComp elt [⟨tg, iter, ifs, 0⟩] scope pos) 0 (.ref it) (.ref D) (compEnvC scope (cellsFrom (s3.heap.objs.size + 1) scope.names (cloFrom X.env.cells scope.names [])) s3.heap.objs.size X.env)) (compPost (model X.prog X.w) X.A X.xe use Qf (.ref D) s3.heap.objs.size) { s3 with heap := pushCells (s3.heap.push { cls := .type "dict", data := .dict #[] }) scope.names }
  have nfp : ∀ b ∈ fp, (upd H2 D (.lst [])) b = none := fun b hb => (f3 b hb).1.1
  generalize hce : compEnvC scope (cellsFrom (s3.heap.objs.size + 1) scope.names (cloFrom X.env.cells scope.names [])) s3.heap.objs.size X.env = ce at I4 pg pt pe ⊢
  have cL : ce.locals = s3.heap.objs.size := by subst hce; rfl
  generalize hH3 : upd H2 D (.lst []) = H3 at I3 I4 pg pt pe w0 nfp f3
  generalize hs4 : ({ s3 with heap := pushCells (s3.heap.push { cls := .type "dict", data := .dict #[] }) scope.names } : Shared) = s4 at I4 ⊢
  have st4 : tn 0 s4.heap := T.keep _ _ _ st3 fun b _ o e => by rw [← hs4]; exact pushCells_keeps _ _ _ _ (Heap.get?_push_of_some _ e)
  have stat : ∀ {σ' : L2.St} {H' : Hp} {s' : Shared}, Inv (blkH X p s3 H3 scope ce fp) [] σ' H' s' → (∀ b ∈ fp, H' b = none) → ∀ b ∈ fp, FpOk (blkH X p s3 H3 scope ce fp) [] H' b := fun {σ' H' s'} I' hn b hb =>
    ⟨hn b hb, (I'.ok.exf b hb).1, I'.ok.exfs b hb, .inl hb, fun x c e => (I'.ok.exf b hb).2 x c e, fun q hq => by
      rw [show q = p by simpa using hq]
      exact (f2 b hb).2.2.2.2.2 p (List.mem_append_left _ hp)⟩
  have loop : codeAny (model X.prog X.w) X.A (.compLoop (.ListComp elt [⟨tg, iter, ifs, 0⟩] scope pos) 0 (.ref it) (.ref D) ce) (compPost (model X.prog X.w) X.A X.xe use Qf (.ref D) s3.heap.objs.size) s4 := by
    refine compLoop_any (fun n s' => ∃ i H', Inv (blkH X p s3 H3 scope ce fp) [] (wipe σ (own.map (·.2))) H' s' ∧ tn i s'.heap ∧ (∀ b ∈ fp, H' b = none) ∧ W i n H') ?_ m0 ⟨0, H3, I4, st4, nfp, w0⟩
    rintro n s5 ⟨i, H5, I5, st5, n5, w5⟩
    rcases turn i n H5 w5 with ⟨stop, qq⟩ | ⟨go, Nx, hNx, step⟩
    · have td := T.done (blkH X p s3 H3 scope ce fp) rfl rfl rfl ⟨p, hot, List.mem_cons_self⟩ i [] s5 _ H5 (fun _ _ => False) I5 (stat I5 n5) st5 stop
      refine thnF td fun r s6 ⟨hr, I6⟩ => ?_
      subst hr
      -- back in the def's context
      have I7 : Inv X pins σ H5 s6 := I3.call' (ch := fp) I6.os I6.base I6.hok I6.bare fun b hb => ⟨(f3 b hb).1.2.2.2.1, (f3 b hb).1.2.1, (f3 b hb).1.2.2.2.2.1, (f3 b hb).1.2.2.2.2.2⟩
      have nC : H5 s3.heap.objs.size = none := by
        have z : H5 ce.locals = none := I6.free
        rw [cL] at z
        exact z
      obtain ⟨m, hn, _⟩ := I6.loc
      have hn : s6.heap.Ns ce.locals m := hn
      rw [cL] at hn
      exact hRR D s3.heap.objs.size s6 m H5 I7 qq hn (I3.fpOk (Nat.le_refl _) nC)
    · have ti := T.item (blkH X p s3 H3 scope ce fp) rfl rfl rfl ⟨p, hot, List.mem_cons_self⟩ i [] s5 _ H5 (fun _ _ => False) I5 (stat I5 n5) st5 go
      refine thnF ti fun r s6 ⟨u, hr, h6⟩ => ?_
      subst hr
      refine thnF h6 fun _ s7 ⟨x, H7, I7, r7, y7, st7, n7⟩ => ?_
      have I7' := I7.pinned (stat I7 n7) (T.obj _ _ st7)
      refine thnF (pg.run _ s7 _ H7 x u _ I7' r7 (step x H7 y7)) fun _ s8 ⟨σ8, H8, I8, hw8, q8⟩ => ?_
      refine thnF (pt.run _ s8 σ8 H8 _ I8 q8) fun b s9 ⟨H9, I9, q9⟩ => ?_
      -- the turn's end
      have fin : ∀ {s' : Shared} {H' : Hp}, Inv (blkH X p s3 H3 scope ce fp) ([] ++ pinsAt fp s7.heap) σ8 H' s' → Nx H' → ∃ m, m < n ∧ ∃ i H', Inv (blkH X p s3 H3 scope ce fp) [] (wipe σ (own.map (·.2))) H' s' ∧ tn i s'.heap ∧ (∀ b ∈ fp, H' b = none) ∧ W i m H' := fun {s' H'} I' nx => by
        obtain ⟨m', hm, w'⟩ := hNx H' nx
        have pin' : ∀ b ∈ fp, ∀ o, s7.heap.get? b = some o → s'.heap.get? b = some o ∧ H' b = none := fun b hb o e =>
          let z := I'.pin (b, o) (List.mem_append_right _ (List.mem_append_right _ (mem_pinsAt hb e)))
          ⟨z.1, z.2.1⟩
        have hl : (wipe σ (own.map (·.2))).length = σ8.length := by rw [← hw8, wipe_length]
        refine ⟨m', hm, i + 1, H', (I'.unpinned (pins := [])).weak hl (fun j v e => ?_), T.keep _ _ _ st7 fun b hb o e => (pin' b hb o e).1, fun b hb => ?_, w'⟩
        · rw [← hw8] at e
          exact (wipe_some e).1
        · obtain ⟨o, e, _⟩ := T.obj _ _ st7 b hb
          exact (pin' b hb o e).2
      cases b with
      | false =>
        simp only [Bool.false_eq_true, if_false] at q9 ⊢
        exact fin I9 q9
      | true =>
        simp only [if_true] at q9 ⊢
        refine thnF (pe.run _ s9 σ8 H9 _ I9 q9) fun z s10 ⟨yv, H10, I10, r10, acc, hD10, hz10, nx⟩ => ?_
        exact app_ok (X := blkH X p s3 H3 scope ce fp) I10 hD10 hz10 r10 fun s11 I11 => fin I11 nx
  exact codeAny_compStart_list loop (T.self X.A 0 _ _ _ st4 loop)
theorem pe_lcH {p : Addr × Obj} {elt tg iter : Expr} {ifs : List Expr} {scope : Scope} {own : List (Str × Nat)} {pos : Pos} {wi : TI} {g : TG} {tt : TT} {te : TE} (hot : Hot1 X.A p) (hp : p ∈ X.pn) (hN : X.N.Nodup) (hi : PIH X tg iter wi) (ok : BlkOk X.N X.env.scope scope own)
    (hg : ∀ (s : Shared) (H : Hp) (C : Addr) (cl : List (Str × Addr)) (fp : List Addr), PG (blkH X p s H scope (compEnvC scope cl C X.env) fp) tg g) (ht : ∀ (s : Shared) (H : Hp) (C : Addr) (cl : List (Str × Addr)) (fp : List Addr), PTs (blkH X p s H scope (compEnvC scope cl C X.env) fp) ifs tt)
    (he : ∀ (s : Shared) (H : Hp) (C : Addr) (cl : List (Str × Addr)) (fp : List Addr), PE (blkH X p s H scope (compEnvC scope cl C X.env) fp) elt te) (hs : ∀ x, foldedSetIterable iter X.env x = pure x := by intro _; rfl) :
    PE X (.ListComp elt [⟨tg, iter, ifs, 0⟩] scope pos) (tLc wi g tt te (own.map (·.2))) := by
  refine ⟨fun pins s σ H Q I h => ?_⟩
  rw [eval_ListComp]
  refine lc_coreH hot hp hN I hi ok hg ht he hs h fun D C s' m H' I' q hn f => ⟨m, hn, fun h'' sb => ?_⟩
  obtain ⟨f0, f1, f2, f3, f4, f5⟩ := f
  exact ⟨.ref D, H', I'.turned (t' := s'.toks) (fun b o hb e => (sb.2 b hb).trans e) f0 f1 f3 f4 f5, rfl, q⟩
end
end WB
namespace WB
open PySem PySem.Spec PyProof.Rows L2 HotX L2H
theorem roomH_mk {k : Nat} {A : Around} (r : Room k A) (h : Option Value) : RoomH k (A.mark h) := ⟨r.dp, r.un⟩
theorem roomH_u1 {k : Nat} {A : Around} (r : RoomH k A) : A.units + 1 < cLine := by have := r.un; omega
theorem FnH.mono {P : Program} {w : World} {K : PySem.W.Frag} {mg : Str → Option Value} {base : Heap} {CX : CXT} {j k : Nat} {f : Addr} {fd : FuncData} {ps : List Str} {sp : Sp} (F : FnH P w K mg base CX j f fd ps sp) (h : j ≤ k) : FnH P w K mg base CX k f fd ps sp :=
  ⟨F.len, fun A outer s H args us vs Q E p hr => F.run A outer s H args us vs Q E p (hr.mono h)⟩
section
variable {P : Program} {w : World} {K : PySem.W.Frag} {mg : Str → Option Value} {base : Heap} {x qual : Str} {params : Arguments} {body : List Stmt} {scope : Scope} {dvs : List V} {kws : List (Str × V)} {f : Addr} {fd : FuncData}
theorem okH_of {CX : CXT} {N ps : List Str} {k : Nat} {sp : Sp} (F : FunD K x qual params body scope dvs kws f fd) (S : FnScope N ps scope) (len : ∀ vs H Q E, sp vs H Q E → vs.length = ps.length)
    (hbody : ∀ (cdv : Value) (A : Around) (outer : List Env) (s : Shared) (H : Hp) (vs : List V) (Q : VK) (E : XK) (p : Addr × Obj), Hot1 A p → RoomH k (A.deeper (envOfC qual scope s.heap.objs.size f cdv)) → sp vs H Q E →
      ∃ t, PSs (cxH CX P w K mg base N qual scope f cdv A outer s H E p) body t ∧ t { nx := fun _ H' => Q .non H', rt := Q } (L2.start N vs) H) : FnH P w K mg base CX (k + 1) f fd ps sp := by
  obtain ⟨oc, od, dV, kV, doc, pm, an, cdv, ct, osl, rfl, lk, hcd, _, _⟩ := F.ex
  exact fn_ofH lk hcd S len fun A outer s H vs Q E p hot hr hsp => hbody cdv A outer s H vs Q E p hot hr hsp
end
section
variable {X : Cx} {k : Nat} {f : Addr} {fd : FuncData} {ps : List Str} {sp : Sp} {x : Str} {q pos : Pos} {e : Expr} {es : List Expr} {t : TA}
theorem PE.imp {e : Expr} {t t' : TE} (h : PE X e t) (i : ∀ σ H Q, t' σ H Q → t σ H Q) : PE X e t' := ⟨fun pins s σ H Q I w => h.run pins s σ H Q I (i σ H Q w)⟩
theorem pe_callE (F : FnH X.prog X.w X.K X.mg X.base CX0 k f fd ps sp) (hr : RoomH k X.A) (hc : HotC X) (hg : Gl X x) (hm : X.mg x = some (.ref f)) (hk : PySem.W.keepIn X.K (.ref f) = true) (hb : Binds X.K fd ps [])
    (ha : PA X (e :: es) t) (hdb : (x == ("__debug__" : Str)) = false := by decide) (he : starEach (e :: es) X.env = (false, eval e X.env) :: starEach es X.env := by rfl) (hpl : (backTo pos (starEach es X.env)).any (·.1) = false := by rfl) :
    PE X (.Call (.Name x q) (e :: es) [] pos) (tCall sp [] E0 t) :=
  PE.imp (pe_callH (E := fun _ => E0) F hr hc hg hm hk hb (fun σ pins H s e s' I c => c.elim) ha hdb he hpl) fun σ H Q h => by
    have e : (fun (vs : List V) (H1 : Hp) => sp (vs ++ []) H1 Q E0) = fun vs H1 => sp vs H1 Q E0 := by
      funext vs H1
      rw [List.append_nil]
    show t σ H fun vs H1 => sp vs H1 Q E0
    rw [← e]
    exact h
theorem suite_hot {a : Addr} {oe : Obj} {pn : List (Addr × Obj)} {cls : Value} {d : Option Addr} (hz : L2N.Zn cls d oe) (hf : ∃ fv, oe.data = .fields fv) : HotC (X.suite a ((a, oe) :: pn)) := by
  obtain ⟨vs, h1⟩ := hf
  exact ⟨(a, oe), ⟨rfl, vs, h1, hz.2.2 vs h1⟩, List.mem_cons_self⟩
end
end WB
namespace WB
open PySem PySem.Spec PyProof.Rows L2 LamX
def top (i : Nat) : Stmt := PySem.Challenge.pw_wherebegun_k12_kinds_met.main.body.getD i (.Pass ⟨0, 0, 0, 0⟩)
abbrev st_is_integer : Stmt := top 18
abbrev st_is_within : Stmt := top 19
abbrev st_is_word : Stmt := top 20
abbrev st_is_row : Stmt := top 21
abbrev st_check_signs : Stmt := top 26
abbrev st_least_turning : Stmt := top 23
abbrev st_Ring_init : Stmt := inClass (top 24) 0
abbrev st_Ring_text : Stmt := inClass (top 24) 1
abbrev st_check_pairs : Stmt := top 27
abbrev st_check_kind : Stmt := top 28
abbrev st_Kind_init : Stmt := inClass (top 30) 0
abbrev st_Kind_row : Stmt := inClass (top 30) 4
abbrev st_Kind_closes : Stmt := inClass (top 30) 5
abbrev st_Kind_eq : Stmt := inClass (top 30) 7
abbrev st_Kind_contains : Stmt := inClass (top 30) 9
abbrev st_Kind_and : Stmt := inClass (top 30) 10
abbrev st_law_cell : Stmt := top 32
abbrev st_law_pool : Stmt := top 33
abbrev st_law_draw : Stmt := top 34
abbrev st_law_shufU : Stmt := top 35
abbrev st_law_faceR : Stmt := top 36
abbrev st_law_odd : Stmt := top 37
abbrev st_law_signs : Stmt := top 38
abbrev st_law_every : Stmt := top 39
abbrev st_law_couplesU : Stmt := top 40
abbrev st_law_heard12 : Stmt := top 41
abbrev st_law_along12 : Stmt := top 42
abbrev st_law_both12 : Stmt := top 43
abbrev st_law_right12 : Stmt := top 44
abbrev st_law12 : Stmt := top 45
def d_is_integer : He5.DefA := ⟨fun K => (He.ga K "is_integer"), "is_integer", "is_integer", defArgs st_is_integer, defBody st_is_integer, defScope st_is_integer, [], []⟩
def d_is_within : He5.DefA := ⟨fun K => (He.ga K "is_within"), "is_within", "is_within", defArgs st_is_within, defBody st_is_within, defScope st_is_within, [], []⟩
def d_is_word : He5.DefA := ⟨fun K => (He.ga K "is_word"), "is_word", "is_word", defArgs st_is_word, defBody st_is_word, defScope st_is_word, [.str "abcdefghijklmnopqrstuvwxyz"], []⟩
def d_is_row : He5.DefA := ⟨fun K => (He.ga K "is_row"), "is_row", "is_row", defArgs st_is_row, defBody st_is_row, defScope st_is_row, [], []⟩
def d_check_signs : He5.DefA := ⟨fun K => (He.ga K "check_signs"), "check_signs", "check_signs", defArgs st_check_signs, defBody st_check_signs, defScope st_check_signs, [], []⟩
def d_least_turning : He5.DefA := ⟨fun K => (He.ga K "least_turning"), "least_turning", "least_turning", defArgs st_least_turning, defBody st_least_turning, defScope st_least_turning, [], []⟩
def d_Ring_init : He5.DefA := ⟨fun K => (He.ma K (He.ga K "Ring") "__init__"), "__init__", "Ring.__init__", defArgs st_Ring_init, defBody st_Ring_init, defScope st_Ring_init, [], []⟩
def d_Ring_text : He5.DefA := ⟨fun K => (He5.wf K (He.ga K "Ring") "property" "text"), "text", "Ring.text", defArgs st_Ring_text, defBody st_Ring_text, defScope st_Ring_text, [], []⟩
def d_check_pairs : He5.DefA := ⟨fun K => (He.ga K "check_pairs"), "check_pairs", "check_pairs", defArgs st_check_pairs, defBody st_check_pairs, defScope st_check_pairs, [], []⟩
def d_check_kind : He5.DefA := ⟨fun K => (He.ga K "check_kind"), "check_kind", "check_kind", defArgs st_check_kind, defBody st_check_kind, defScope st_check_kind, [], []⟩
def d_Kind_init : He5.DefA := ⟨fun K => (He.ma K (He.ga K "Kind") "__init__"), "__init__", "Kind.__init__", defArgs st_Kind_init, defBody st_Kind_init, defScope st_Kind_init, [.non], []⟩
def d_Kind_row : He5.DefA := ⟨fun K => (He5.wf K (He.ga K "Kind") "property" "row"), "row", "Kind.row", defArgs st_Kind_row, defBody st_Kind_row, defScope st_Kind_row, [], []⟩
def d_Kind_closes : He5.DefA := ⟨fun K => (He.ma K (He.ga K "Kind") "closes"), "closes", "Kind.closes", defArgs st_Kind_closes, defBody st_Kind_closes, defScope st_Kind_closes, [], []⟩
def d_Kind_eq : He5.DefA := ⟨fun K => (He.ma K (He.ga K "Kind") "__eq__"), "__eq__", "Kind.__eq__", defArgs st_Kind_eq, defBody st_Kind_eq, defScope st_Kind_eq, [], []⟩
def d_Kind_contains : He5.DefA := ⟨fun K => (He.ma K (He.ga K "Kind") "__contains__"), "__contains__", "Kind.__contains__", defArgs st_Kind_contains, defBody st_Kind_contains, defScope st_Kind_contains, [], []⟩
def d_Kind_and : He5.DefA := ⟨fun K => (He.ma K (He.ga K "Kind") "__and__"), "__and__", "Kind.__and__", defArgs st_Kind_and, defBody st_Kind_and, defScope st_Kind_and, [], []⟩
def d_law_cell : He5.DefA := ⟨fun K => (He.ga K "_law_cell"), "_law_cell", "_law_cell", defArgs st_law_cell, defBody st_law_cell, defScope st_law_cell, [], []⟩
def d_law_pool : He5.DefA := ⟨fun K => (He.ga K "_law_pool"), "_law_pool", "_law_pool", defArgs st_law_pool, defBody st_law_pool, defScope st_law_pool, [], []⟩
def d_law_draw : He5.DefA := ⟨fun K => (He.ga K "_law_draw"), "_law_draw", "_law_draw", defArgs st_law_draw, defBody st_law_draw, defScope st_law_draw, [], []⟩
def d_law_shufU : He5.DefA := ⟨fun K => (He.ga K "_law_shuffled"), "_law_shuffled", "_law_shuffled", defArgs st_law_shufU, defBody st_law_shufU, defScope st_law_shufU, [], []⟩
def d_law_faceR : He5.DefA := ⟨fun K => (He.ga K "_law_face"), "_law_face", "_law_face", defArgs st_law_faceR, defBody st_law_faceR, defScope st_law_faceR, [], []⟩
def d_law_odd : He5.DefA := ⟨fun K => (He.ga K "_law_odd"), "_law_odd", "_law_odd", defArgs st_law_odd, defBody st_law_odd, defScope st_law_odd, [], []⟩
def d_law_signs : He5.DefA := ⟨fun K => (He.ga K "_law_signs"), "_law_signs", "_law_signs", defArgs st_law_signs, defBody st_law_signs, defScope st_law_signs, [], []⟩
def d_law_every : He5.DefA := ⟨fun K => (He.ga K "_law_every"), "_law_every", "_law_every", defArgs st_law_every, defBody st_law_every, defScope st_law_every, [], []⟩
def d_law_couplesU : He5.DefA := ⟨fun K => (He.ga K "_law_couples"), "_law_couples", "_law_couples", defArgs st_law_couplesU, defBody st_law_couplesU, defScope st_law_couplesU, [], []⟩
def d_law_heard12 : He5.DefA := ⟨fun K => (He.ga K "_law_heard"), "_law_heard", "_law_heard", defArgs st_law_heard12, defBody st_law_heard12, defScope st_law_heard12, [], []⟩
def d_law_along12 : He5.DefA := ⟨fun K => (He.ga K "_law_along"), "_law_along", "_law_along", defArgs st_law_along12, defBody st_law_along12, defScope st_law_along12, [], []⟩
def d_law_both12 : He5.DefA := ⟨fun K => (He.ga K "_law_both"), "_law_both", "_law_both", defArgs st_law_both12, defBody st_law_both12, defScope st_law_both12, [], []⟩
def d_law_right12 : He5.DefA := ⟨fun K => (He.ga K "_law_right"), "_law_right", "_law_right", defArgs st_law_right12, defBody st_law_right12, defScope st_law_right12, [], []⟩
def d_law12 : He5.DefA := ⟨fun K => (He.ga K "law"), "law", "law", defArgs st_law12, defBody st_law12, defScope st_law12, [], []⟩
abbrev st_NotAKind_init : Stmt := inClass (top 8) 0
def d_NotAKind_init : He5.DefA := ⟨fun K => (He.ma K (He.ga K "NotAKind") "__init__"), "__init__", "NotAKind.__init__", defArgs st_NotAKind_init, defBody st_NotAKind_init, defScope st_NotAKind_init, [], []⟩
abbrev st_NoRing_init : Stmt := inClass (top 12) 0
def d_NoRing_init : He5.DefA := ⟨fun K => (He.ma K (He.ga K "NoRing") "__init__"), "__init__", "NoRing.__init__", defArgs st_NoRing_init, defBody st_NoRing_init, defScope st_NoRing_init, [], []⟩
def fn : List He5.DefA := [d_is_integer, d_is_within, d_is_word, d_is_row, d_check_signs, d_least_turning, d_Ring_init, d_Ring_text, d_check_pairs, d_check_kind, d_Kind_init, d_Kind_row, d_Kind_closes, d_Kind_eq, d_Kind_contains, d_Kind_and, d_law_cell, d_law_pool, d_law_draw, d_law_shufU, d_law_faceR, d_law_odd, d_law_signs, d_law_every, d_law_couplesU, d_law_heard12, d_law_along12, d_law_both12, d_law_right12, d_law12, d_NotAKind_init, d_NoRing_init]
def fa : List He.Fa := [.glo "is_integer", .glo "is_within", .glo "is_word", .glo "is_row", .glo "check_signs", .glo "least_turning", .glo "check_pairs", .glo "check_kind", .glo "_law_cell", .glo "_law_pool", .glo "_law_draw", .glo "_law_shuffled", .glo "_law_face", .glo "_law_odd", .glo "_law_signs", .glo "_law_every", .glo "_law_couples", .glo "_law_heard", .glo "_law_along", .glo "_law_both", .glo "_law_right", .glo "law", .glo "Kind", .int "MOST_SIGNS" 4, .int "MOST_WORD" 600, .glo "NoRing", .glo "NotAKind", .glo "Ring", .free "abs", .free "all", .free "bool", .free "dict", .free "divmod", .free "enumerate", .free "int", .free "isinstance", .free "len", .free "list", .free "max", .free "min", .free "range", .free "set", .free "sorted", .free "str", .free "tuple", .cls "Ring", .noat "Ring" "least", .mkr "Ring", .cls "Kind", .noat "Kind" "letters", .noat "Kind" "allowed", .mkr "Kind", .meth "Kind" "closes"]
def ex : List Fx := [insB "Ring", noB "Ring", insB "Kind", noB "Kind", selfB "Kind", excKB "NotAKind" "given", excNB "NoRing", exmAllB ["NotAKind", "NoRing"], (fun K => decide (He.ga K "Kind" ≠ He.ga K "Ring")), noBinB "Ring" "and", kitTB "Ring", kitNB "Kind" "Ring", kitNB "Ring" "Kind", propB "Ring" "text", propB "Kind" "row", specB "Kind" "__eq__", specB "Kind" "__contains__", specB "Kind" "__and__", binBs "Kind" "and"]
def looseN : List Str := (["_wall", "WrongValue", "InvalidWord", "InvalidSigns", "InvalidNumber", "InvalidPlace", "NotARing", "NotAKind", "InvalidPairs", "WrongName", "NoAnswer", "NoRing", "MOST_SIGNS", "MOST_WORD", "MOST_LENGTH"] : List Str) ++ (["LETTERS", "is_integer", "is_within", "is_word", "is_row", "least_turning", "Ring", "check_signs", "check_pairs", "check_kind", "going_on", "Kind", "_law_cell", "_law_pool", "_law_draw"] : List Str) ++ (["_law_shuffled", "_law_face", "_law_odd", "_law_signs", "_law_every", "_law_couples", "_law_heard", "_law_along", "_law_both", "_law_right"] : List Str)
abbrev RR : PySem.W.OpenRow := PySem.W.OpenLaw.row PySem.Challenge.rw_wherebegun_k12_kinds_met
def tabL : List Str := ["_law_right"]
def tf : List He.Defn := tabL.map fun x => (x, none)
abbrev hk : PySem.W.Hook := hookWT 6 fa fn ex tf
def ob (s : PySem.W.SharedT) : AlWT := obsWT 6 fa fn ex tf (HandSHeadRun.getT s)
theorem ob_eq (s : PySem.W.SharedT) : ob s = hk.obs s.abs := obsWT_eq (HandSHeadRun.getT_eq s)
theorem runH (w : World) : HandSHeadRun.RunEq RR (PySem.W.view RR.prog [45]) hk ob 20000 looseN w := by
  intro os
  kernel_rfl
end WB
namespace WB
open PySem PySem.Spec PyProof.Rows L2
local macro_rules | `(tactic| walk_at "lit") => `(tactic| first | exact lit_abc | exact lit_empty)
local macro_rules | `(tactic| walk_at "nm") => `(tactic| focus first | exact List.not_mem_nil | (simp only [List.mem_singleton]; first | assumption | (exact Ne.symm (by assumption)) | (intro hz; subst hz; simp_all; done)))
local macro_rules | `(tactic| walk_at "hp") => `(tactic| first | assumption | (apply Ex.get0 (by assumption); walk_at "hp") | (apply Ex.get (by assumption); (walk_at "nm"); (walk_at "hp")))
local macro_rules | `(tactic| walk_at "sq") => `(tactic| first | assumption | (apply SqL.of; walk_at "hp") | (apply Ex.sqL (by assumption); (walk_at "nm"); (walk_at "sq")))
local macro_rules | `(tactic| walk_at "sqt") => `(tactic| first | assumption | (apply SqT.of; walk_at "hp") | (apply Ex.sqT (by assumption); (walk_at "nm"); (walk_at "sqt")))
local macro_rules | `(tactic| walk_at "sz") => `(tactic| focus ((with_reducible refine Nat.le_trans (m := 100000) ?_ (by decide)); first | omega | (simp; done) | (simp; omega)))
local macro_rules | `(tactic| walk_at "mul") => `(tactic| first | exact Or.inr ⟨by omega, by omega⟩ | exact Or.inl ⟨by omega, by omega⟩)
local macro_rules | `(tactic| walk_at "pool") => `(tactic| first | assumption | (apply PoolAt.ex (by assumption); (walk_at "nm"); (walk_at "pool")))
local macro_rules | `(tactic| walk_at "ring") => `(tactic| first | assumption | (apply RingAt.ex (by assumption); (walk_at "nm"); (walk_at "ring")))
local macro_rules | `(tactic| walk_at "st") => `(tactic| first
  | with_reducible refine s_seq ?_
  | with_reducible refine s_asg ?_
  | with_reducible refine s_gName ?_
  | with_reducible refine s_ret ?_
  | with_reducible refine s_ifS ?_
  | with_reducible refine s_next ?_
  | with_reducible refine s_op ?_
  | ((with_reducible apply s_var); exact rfl)
  | ((with_reducible apply s_cS); (walk_at "lit"))
  | with_reducible refine s_c ?_
  | with_reducible refine s_cb ?_
  | with_reducible refine s_cons ?_
  | with_reducible refine s_nil ?_
  | with_reducible refine s_un ?_
  | with_reducible refine s_call ?_
  | with_reducible refine s_test ?_
  | with_reducible refine s_tB ?_
  | with_reducible refine s_blQ ?_
  | with_reducible refine s_not ?_
  | with_reducible refine s_and ?_
  | with_reducible refine s_or ?_
  | with_reducible refine s_andV ?_
  | with_reducible refine s_orV ?_
  | with_reducible refine s_notV ?_
  | with_reducible refine s_ifE ?_
  | with_reducible refine s_chain ?_
  | ((with_reducible refine s_T ?_ ?_); (with_reducible exact rfl))
  | with_reducible refine s_nT ?_
  | with_reducible refine s_nF ?_
  | ((with_reducible refine s_F ?_ ?_); (with_reducible exact rfl))
  | ((with_reducible refine s_T ?_ ?_); assumption)
  | ((with_reducible refine s_F ?_ ?_); assumption)
  | ((with_reducible refine s_nB ?_ ?_); assumption)
  | ((with_reducible refine s_nA ?_ ?_); assumption)
  | ((with_reducible refine s_Td ?_ ?_); omega)
  | ((with_reducible refine s_Fd ?_ ?_); omega)
  | ((with_reducible refine s_nTd ?_ ?_); omega)
  | ((with_reducible refine s_nFd ?_ ?_); omega)
  | with_reducible refine s_sfld ?_
  | with_reducible refine s_addI ?_
  | with_reducible refine s_subI ?_
  | ((with_reducible refine s_mulI ?_ ?_); (walk_at "mul"))
  | ((with_reducible refine s_divI ?_ ?_); exact ⟨by omega, by omega⟩)
  | ((with_reducible refine s_modI ?_ ?_); omega)
  | ((with_reducible refine s_powI ?_ ?_); exact ⟨by decide, by decide, by decide⟩)
  | with_reducible refine s_ltI ?_
  | with_reducible refine s_leI ?_
  | with_reducible refine s_gtI ?_
  | with_reducible refine s_geI ?_
  | with_reducible refine s_negI ?_
  | with_reducible refine s_absI ?_
  | with_reducible refine s_intI ?_
  | with_reducible refine s_min2 ?_
  | with_reducible refine s_max2 ?_
  | with_reducible refine s_eqI ?_
  | with_reducible refine s_neI ?_
  | with_reducible refine s_eqS ?_
  | with_reducible refine s_neS ?_
  | with_reducible refine s_inSg ?_
  | with_reducible refine s_notInSg ?_
  | ((with_reducible refine s_addS ?_ ?_); (walk_at "sz"))
  | ((with_reducible refine s_lenS ?_ ?_); (walk_at "sz"))
  | ((with_reducible apply s_lenL); (walk_at "sq"))
  | ((with_reducible apply s_lenT); (walk_at "sqt"))
  | ((with_reducible apply s_ixL); (walk_at "sq"); exact rfl)
  | ((with_reducible apply s_ixT); (walk_at "sqt"); exact rfl)
  | with_reducible refine s_gSub ?_
  | ((with_reducible apply s_setL); (walk_at "hp"); (exact rfl); (intro _ _ _))
  | ((with_reducible refine s_alloc ?_ ?_); (walk_at "sz"); (intro _ _ _ _ _))
  | ((with_reducible refine s_divmod ?_ ?_); (exact ⟨by omega, PyProof.noPylong_small (by omega)⟩); (intro _ _ _ _ _))
  | ((with_reducible apply s_gTup); (walk_at "sqt"); (exact rfl))
  | ((with_reducible apply s_gLst); (walk_at "sq"); (exact rfl))
  | with_reducible refine s_gCons ?_
  | with_reducible refine s_gNil ?_
  | with_reducible refine s_lc ?_
  | ((with_reducible apply s_cat); (walk_at "hp"); (walk_at "hp"); (walk_at "sz"); (intro _ _ _ _ _))
  | ((with_reducible apply s_slL); (walk_at "sq"); (intro _ _ _ _ _))
  | with_reducible refine s_for ?_
  | with_reducible refine s_rng1 ?_
  | ((with_reducible refine s_rng1i ?_ ?_); (constructor <;> omega))
  | with_reducible refine s_rng2 ?_
  | ((with_reducible refine s_rng2i ?_ ?_); (refine ⟨?_, ?_, ?_, ?_⟩ <;> omega))
  | with_reducible refine s_iStr ?_
  | with_reducible refine s_iStrS ?_
  | with_reducible refine s_iList ?_
  | ((with_reducible apply s_iListA); (walk_at "sq"))
  | with_reducible refine s_iTup ?_
  | ((with_reducible apply s_iTupA); (walk_at "sqt"))
  | with_reducible refine s_sl ?_
  | with_reducible refine s_noPart ?_
  | with_reducible refine s_part ?_
  | with_reducible refine s_int1 ?_
  | ((with_reducible refine s_slS ?_ ?_); (walk_at "sz"))
  | with_reducible refine s_tup ?_
  | with_reducible refine s_lst ?_
  | with_reducible refine s_par ?_
  | with_reducible refine s_pair ?_
  | with_reducible refine s_M1 ?_
  | with_reducible refine s_isStr ?_
  | with_reducible refine s_revS ?_
  | ((with_reducible refine s_revS1 ?_ ?_); (walk_at "sz"))
  | with_reducible refine s_fldE ?_
  | with_reducible refine s_propE ?_
  | ((with_reducible refine u_draw ?_ ?_ ?_ ?_); omega; omega; (walk_at "pool"); (intro _ _ _ _ _ _))
  | ((with_reducible refine u_pool ?_); (intro _ _ _ _ _))
  | with_reducible refine u_is_integer ?_
  | with_reducible refine s_isiII ?_
  | with_reducible refine s_isiIB ?_
  | with_reducible refine s_isiSS ?_
  | ((with_reducible apply u_fldRing); assumption; (walk_at "ring"))
  | ((with_reducible apply u_textP); (walk_at "ring"))
  | ((with_reducible apply u_strRing); (walk_at "ring"))
  | ((with_reducible apply u_eqRing); (walk_at "ring"); (walk_at "ring"))
  | ((with_reducible apply u_isiRing); assumption; (walk_at "ring"))
  | ((with_reducible refine u_is_word ?_ ?_); omega; (intro _ _))
  | ((with_reducible refine u_turnings ?_ ?_); omega; (intro _ _ _ _ _))
  | with_reducible refine s_makeE ?_
  | with_reducible refine s_methE ?_)
local macro_rules | `(tactic| walk_at "go") => `(tactic| repeat (walk_at "st"))
local macro_rules | `(tactic| walk_at "exs") => `(tactic| first | exact Ex.rfl | assumption | (apply Ex.snoc (by assumption); walk_at "exs") | (apply Ex.snocW (by assumption); walk_at "exs"))
def t_is_word (K : PySem.W.Frag) : TS :=
  (tSeq (tIfS (tOr (tNot (tB (tCB (rIsi K) (tCons (tVar 0) (tCons (tC (.ty "str")) tNil))))) (tNot (tTest (tChain rLeI rLeI (tC (.int 1)) (tCB (rLenV K) (tCons (tVar 0) tNil)) (tC (.int 600)))))) (tRet (tC (.bl false))) tNext)
  (tRet (tCB (rAll K) (tCons (tLc (iStr (tVar 0)) (gName 2) tYes (tOp rInSg (tVar 2) (tVar 1)) [2]) tNil))))
def t_least_turning (K : PySem.W.Frag) : TS :=
  (tRet (tCB (rMinS K) (tCons (tLc (iRng1 (tCons (tCB (rLenV K) (tCons (tVar 0) tNil)) tNil)) (gName 1) tYes (tOp rAddS (tSl rSlS (tVar 0) (tPart (tVar 1)) tNoPart) (tSl rSlS (tVar 0) tNoPart (tPart (tVar 1)))) [1]) tNil)))
def t_Ring_init (K : PySem.W.Frag) : TS :=
  (tSeq (tIfS (tNot (tB (tCall (sp_is_word K) [(vS LET)] E0 (tCons (tVar 1) tNil)))) tNever tNext)
  (sFld K (tVar 0) (tCall (sp_least_turning K) [] E0 (tCons (tVar 1) tNil)) "least"))
def t_Ring_text (K : PySem.W.Frag) : TS :=
  (tRet (tFld K (tVar 0) "least"))
def t_law_cell (K : PySem.W.Frag) : TS :=
  (tSeq (tIfS (tTest (tOp rLtI (tVar 1) (tCB (rLenV K) (tCons (tVar 0) tNil)))) (tRet (tOp (rIxL K) (tVar 0) (tVar 1))) tNext)
  (tSeq (tAsg (tOp rAddI (tC (.int 70001)) (tOp rMulI (tOp rMulI (tC (.int 4093)) (tVar 1)) (tVar 1))) (gName 2))
  (tSeq (tFor (iList K (tSl (rSlL K) (tVar 0) tNoPart (tPart (tC (.int 4))))) (gName 3) (tAsg (tOp rModI (tCB rIntI (tCons (tOp rAddI (tOp rMulI (tVar 2) (tC (.int 521))) (tVar 3)) tNil)) (tC (.int 2147483629))) (gName 2)))
  (tRet (tVar 2)))))
def t_law_pool (K : PySem.W.Frag) : TS :=
  (tSeq (tAsg (tIf (tOr (tTest (tOp rLtI (tVar 0) (tC (.int 0)))) (tTest (tOp rGeI (tVar 0) (tOp rPowI (tC (.int 10)) (tC (.int 18)))))) (tCB rAbsI (tCons (tVar 0) tNil)) (tC (.int 0))) (gName 1))
  (tRet (tLst (tCons (tOp rModI (tCB rIntI (tCons (tVar 0) tNil)) (tC (.int 2147483587))) (tCons (tVar 1) (tCons (tC (.int 0)) tNil))))))
def t_law_draw (K : PySem.W.Frag) : TS :=
  (tSeq (tAsg (tOp rAddI (tOp (rIxL K) (tVar 0) (tC (.int 2))) (tC (.int 1))) (gSub (tVar 0) (tC (.int 2)) rSetL))
  (tSeq (tAsg (tOp rModI (tCB rIntI (tCons (tOp rAddI (tOp rAddI (tOp rMulI (tOp (rIxL K) (tVar 0) (tC (.int 0))) (tC (.int 50021))) (tOp rMulI (tOp (rIxL K) (tVar 0) (tC (.int 2))) (tC (.int 69067)))) (tC (.int 31))) tNil)) (tC (.int 2147483587))) (gName 2))
  (tSeq (tAsg (tOp rModI (tCB rIntI (tCons (tOp rMulI (tVar 2) (tOp rAddI (tOp rDivI (tVar 2) (tC (.int 1024))) (tC (.int 12829)))) tNil)) (tC (.int 2147483629))) (gSub (tVar 0) (tC (.int 0)) rSetL))
  (tSeq (tIfS (tTest (tOp rGtI (tOp (rIxL K) (tVar 0) (tC (.int 1))) (tC (.int 0)))) (tSeq (tAsg (tCB rDivmod (tCons (tOp (rIxL K) (tVar 0) (tC (.int 1))) (tCons (tVar 1) tNil))) (gTup K 2 (gCons (gSub (tVar 0) (tC (.int 1)) rSetL) (gCons (gName 3) gNil))))
  (tRet (tVar 3))) tNext)
  (tRet (tOp rModI (tCB rIntI (tCons (tOp rDivI (tOp (rIxL K) (tVar 0) (tC (.int 0))) (tC (.int 53))) tNil)) (tVar 1)))))))
def t_law_signs (K : PySem.W.Frag) : TS :=
  (tSeq (tAsg (tC (.str "")) (gName 2))
  (tSeq (tFor (iRng1 (tCons (tOp rAddI (tC (.int 1)) (tCall (sp_law_draw K) [] E0 (tCons (tVar 0) (tCons (tVar 1) tNil)))) tNil)) (gName 3) (tSeq (tAsg (tLc (iStr (tC (.str "abcdefghijklmnopqrstuvwxyz"))) (gName 5) (tTest (tOp rNotInSg (tVar 5) (tVar 2))) (tVar 5) [5]) (gName 4))
  (tAsg (tOp rAddS (tVar 2) (tOp (rIxL K) (tVar 4) (tCall (sp_law_draw K) [] E0 (tCons (tVar 0) (tCons (tCB (rLenV K) (tCons (tVar 4) tNil)) tNil))))) (gName 2))))
  (tRet (tVar 2))))
abbrev E1 (Q : VK) : Ends := ⟨fun _ H' => Q .non H', Q, fun _ _ => False, fun _ _ => False⟩
section
variable {K : PySem.W.Frag} {vs : List V} {H : Hp} {Q : VK} {E : XK}
theorem pure_law_draw (h : sp_law_draw K vs H Q E) : t_law_draw K (E1 Q) (start ["_law_pool_here", "_law_many", "_law_mixed", "_law_digit"] vs) H := by
  obtain ⟨a, m, rfl, h0, h1, ⟨x, y, z, hp⟩, k⟩ := h
  show t_law_draw K (E1 Q) [some (.ref a), some (.int m), none, none] H
  unfold t_law_draw
  walk_at "go"
  refine s_2 (fun hb => ?_) (fun hb => ?_)
  · walk_at "go"
    exact k _ _ (Int.emod_nonneg _ (by omega)) (Int.emod_lt_of_pos _ h0) (by walk_at "exs") ⟨_, _, _, by walk_at "hp"⟩
  · walk_at "go"
    exact k _ _ (Int.emod_nonneg _ (by omega)) (Int.emod_lt_of_pos _ h0) (by walk_at "exs") ⟨_, _, _, by walk_at "hp"⟩
theorem pure_law_pool (h : sp_law_pool K vs H Q E) : t_law_pool K (E1 Q) (start ["_law_cell_here", "_law_digits"] vs) H := by
  obtain ⟨c, rfl, k⟩ := h
  show t_law_pool K (E1 Q) [some (.int c), none] H
  unfold t_law_pool
  walk_at "go"
  refine s_2 (fun hb => ?_) (fun hb => ?_)
  · walk_at "go"
    exact k _ _ (by assumption) (by walk_at "exs") ⟨_, _, _, by walk_at "hp"⟩
  · walk_at "go"
    refine s_2 (fun hb => ?_) (fun hb => ?_)
    · walk_at "go"
      exact k _ _ (by assumption) (by walk_at "exs") ⟨_, _, _, by walk_at "hp"⟩
    · walk_at "go"
      exact k _ _ (by assumption) (by walk_at "exs") ⟨_, _, _, by walk_at "hp"⟩
theorem pure_law_cell (h : sp_law_cell K vs H Q E) : t_law_cell K (E1 Q) (start ["_law_script", "_law_k", "_law_mixed", "_law_cell_here"] vs) H := by
  obtain ⟨a, ns, n, rfl, hs, hl, h0, h1, k⟩ := h
  show t_law_cell K (E1 Q) [some (.ref a), some (.int n), none, none] H
  unfold t_law_cell
  walk_at "go"
  refine s_2 (fun hb => ?_) (fun hb => ?_)
  · have hb := of_decide_eq_true hb
    rw [List.length_map] at hb
    have hx : ns[n.toNat]? = some (ns[n.toNat]'(by omega)) := List.getElem?_eq_getElem _
    walk_at "go"
    refine s_ixL hs (atI_of h0 (by rw [List.getElem?_map, hx]; rfl)) ?_
    exact k _ _ Ex.rfl
  · walk_at "go"
    rename_i p H2 hp e2 h2
    refine for_run walk_list (fun i σ H1 => ∃ (c : Int) (x : Option V), σ = [some (.ref a), some (.int n), some (.int c), x] ∧ Ex [] H H1 ∧ H1 p = some (.lst (cutV (ns.map V.int) none (some 4)))) ⟨_, none, rfl, e2, h2⟩ (fun i σ H1 _ ⟨_, _, _, _, h⟩ => SqL.of h) ?_ ?_
    · rintro i x σ H1 H3 hi ⟨c, y, rfl, e, hc⟩ ⟨rfl, hx⟩
      obtain ⟨z, _, rfl⟩ := List.mem_map.mp (mem_cutV (List.mem_of_getElem? hx))
      walk_at "go"
      exact ⟨_, _, rfl, e, hc⟩
    · rintro σ H1 ⟨c, y, rfl, e, hc⟩
      walk_at "go"
      exact k _ _ e
end
section
variable {K : PySem.W.Frag} {vs : List V} {H : Hp} {Q : VK} {E : XK}
theorem four_left {l : List Nat} (h : l.length ≤ 3) : (LET.filter fun c => !decide (c ∈ l)) ≠ [] := by
  intro e
  have h1 : ∀ c ∈ LET, c ∈ l := fun c hc => by
    rcases Classical.em (c ∈ l) with z | z
    · exact z
    · have : c ∈ LET.filter fun c => !decide (c ∈ l) := List.mem_filter.mpr ⟨hc, by simp [z]⟩
      rw [e] at this
      cases this
  have a := h1 97 (by decide)
  have b := h1 98 (by decide)
  have c := h1 99 (by decide)
  have d := h1 100 (by decide)
  match l, h with
  | [], _ => cases a
  | [x], _ => simp at a b; omega
  | [x, y], _ => simp at a b c; omega
  | [x, y, z], _ => simp at a b c d; omega
theorem pure_law_signs (h : sp_law_signs K vs H Q E) : t_law_signs K (E1 Q) (start ["_law_pool_here", "_law_most", "_law_found", "_law_turn", "_law_rest", "_law_mark"] vs) H := by
  obtain ⟨a, m, rfl, h0, h1, hp, k⟩ := h
  show t_law_signs K (E1 Q) [some (.ref a), some (.int m), none, none, none, none] H
  unfold t_law_signs
  walk_at "go"
  rename_i r H1 r0 r1 e1 p1
  refine for_run walk_range (fun i σ H2 => ∃ (f : List Nat) (x y z : Option V), σ = [some (.ref a), some (.int m), some (vS f), x, y, z] ∧ f.length = i ∧ (∀ c ∈ f, c ∈ LET) ∧ f.Nodup ∧ Ex [a] H H2 ∧ PoolAt H2 a) ⟨[], none, none, none, rfl, rfl, by simp, by simp, e1, p1⟩ (fun _ _ _ _ _ => trivial) ?_ ?_
  · rintro i x σ H2 H3 hi ⟨f, y, z, u, rfl, hf, hs, hd, e2, p2⟩ ⟨rfl, rfl⟩
    walk_at "go"
    refine lc_mapS (by decide) (fun c => !decide (c ∈ f)) (fun c => vS [c]) (fun c H4 C1 C0 hc e4 k1 k0 => ?_) (fun D H4 hD e4 hd4 => ?_)
    · walk_at "go"
      refine s_2 (fun hb => ?_) (fun hb => ?_)
      · walk_at "go"
        exact k1 _ Ex.rfl hb
      · exact k0 _ Ex.rfl hb
    · walk_at "go"
      have hne : D ≠ a := fun z => p2.there (z ▸ hD)
      have hL : (LET.filter fun c => !decide (c ∈ f)) ≠ [] := four_left (by omega)
      have hm : ∀ c ∈ (LET.filter fun c => !decide (c ∈ f)), c ∈ LET ∧ c ∉ f := fun c hc => by
        obtain ⟨h1, h2⟩ := List.mem_filter.mp hc
        exact ⟨h1, by simpa using h2⟩
      have hz : (LET.filter fun c => !decide (c ∈ f)).length ≤ 26 := List.length_filter_le _ _
      revert hd4 hL hm hz
      generalize (LET.filter fun c => !decide (c ∈ f)) = L
      intro hd4 hL hm hz
      have h0L : 0 < L.length := List.length_pos_iff.mpr hL
      rw [List.length_map]
      walk_at "go"
      rename_i r2 H5 r20 r21 e5 p5
      obtain ⟨c, hc⟩ : ∃ c, L[r2.toNat]? = some c := ⟨_, List.getElem?_eq_getElem (by omega)⟩
      refine s_ixL (xs := L.map fun c => vS [c]) (by walk_at "sq") (atI_of r20 (by rw [List.getElem?_map, hc]; rfl)) ?_
      obtain ⟨c1, c2⟩ := hm c (List.mem_of_getElem? hc)
      walk_at "go"
      refine ⟨f ++ [c], _, _, _, rfl, by rw [List.length_append, hf]; rfl, fun x hx => ?_, ?_, by walk_at "exs", p5⟩
      · rcases List.mem_append.mp hx with hx | hx
        · exact hs x hx
        · rw [List.mem_singleton.mp hx]; exact c1
      · exact List.nodup_append.mpr ⟨hd, by simp, fun x hx y hy => by rw [List.mem_singleton.mp hy]; intro z; exact c2 (z ▸ hx)⟩
  · rintro σ H2 ⟨f, y, z, u, rfl, hf, hs, hd, e2, p2⟩
    walk_at "go"
    refine k f _ ?_ ?_ hs hd e2 p2
    · intro e
      subst e
      simp at hf
      omega
    · rw [hf]; omega
end
section
variable {K : PySem.W.Frag} {vs : List V} {H : Hp} {Q : VK} {E : XK}
theorem pure_is_word (h : sp_is_word K vs H Q E) : t_is_word K (E1 Q) (start ["value", "signs", "sign"] vs) H := by
  obtain ⟨v, s, rfl, h⟩ := h
  show t_is_word K (E1 Q) [some v, some (vS s), none] H
  unfold t_is_word
  rcases h with ⟨l, rfl, hl, k⟩ | ⟨n, hk, hn, k⟩
  rotate_left
  · walk_at "go"
    have hb := kitB_str hk.2 hn
    refine s_isiK hk (b := false) hb ?_
    walk_at "go"
    exact k
  walk_at "go"
  refine s_2 (fun hb => ?_) (fun hb => ?_)
  · have hb := of_decide_eq_true hb
    walk_at "go"
    refine s_2 (fun hb2 => ?_) (fun hb2 => ?_)
    · have hb2 : ¬ (l.length : Int) ≤ 600 := by simpa using hb2
      walk_at "go"
      have e : isWord l s = false := by
        unfold isWord
        rw [decide_eq_false (by omega)]
        rfl
      rw [← e]
      exact k _ Ex.rfl
    · have hb2 : (l.length : Int) ≤ 600 := by simpa using hb2
      walk_at "go"
      refine lc_mapS (by omega) (fun _ => true) (fun c => .bl (decide (c ∈ s))) (fun c H4 C1 C0 hc e4 k1 k0 => ?_) (fun D H4 hD e4 hd4 => ?_)
      · refine s_yes ?_
        walk_at "go"
        exact k1 _ Ex.rfl rfl
      · walk_at "go"
        have e : isWord l s = ((l.filter fun _ => true).map fun c => decide (c ∈ s)).all id := by
          unfold isWord
          rw [decide_eq_true (by omega), Bool.true_and, List.all_map, List.filter_eq_self.mpr (by simp)]
          rfl
        refine s_all (bs := (l.filter fun _ => true).map fun c => decide (c ∈ s)) ?_ ?_
        · rw [List.map_map]
          exact SqL.of hd4
        · rw [← e]
          exact k _ e4
  · have hb : ¬ 1 ≤ (l.length : Int) := of_decide_eq_false hb
    refine s_blQ ?_
    walk_at "go"
    have e : isWord l s = false := by
      unfold isWord
      rw [decide_eq_false (by omega)]
      rfl
    rw [← e]
    exact k _ Ex.rfl
theorem pure_least_turning (h : sp_least_turning K vs H Q E) : t_least_turning K (E1 Q) (start ["text", "place"] vs) H := by
  obtain ⟨l, rfl, h0, hl, k⟩ := h
  show t_least_turning K (E1 Q) [some (vS l), none] H
  unfold t_least_turning
  walk_at "go"
  refine lc_mapR (by omega) (fun i => vS (rot l i)) (fun i H1 C hi e kk => ?_) (fun D H' hD e hd => ?_)
  · walk_at "go"
    rw [cut_from (by omega), cut_to (by omega), show ((0 : Int) + (i : Int)).toNat = i by omega]
    refine s_addS ?_ (kk _ Ex.rfl)
    rw [List.length_drop, List.length_take]
    walk_at "sz"
  · have e0 : (rots l).map vS = List.map (fun i => vS (rot l i)) (List.range (↑l.length : Int).toNat) := by
      unfold rots
      rw [List.map_map, Int.toNat_natCast]
      rfl
    rw [← e0] at hd
    have kk := k H' e
    unfold leastT at kk
    cases hr : rots l with
    | nil =>
      exfalso
      apply h0
      have := congrArg List.length hr
      unfold rots at this
      simpa using this
    | cons x xs =>
      rw [hr] at kk hd
      exact s_minS (SqL.of hd) kk
variable (F : RingK K)
include F
theorem pure_Ring_text (h : sp_Ring_text K vs H Q E) : t_Ring_text K (E1 Q) (start ["self"] vs) H := by
  obtain ⟨a, l, rfl, h, k⟩ := h
  show t_Ring_text K (E1 Q) [some (.ref a)] H
  unfold t_Ring_text
  walk_at "go"
  exact k
theorem pure_Ring_init (h : sp_Ring_init K vs H Q E) : t_Ring_init K (E1 Q) (start ["self", "text"] vs) H := by
  obtain ⟨x, dx, l, rfl, hw, hx, k⟩ := h
  show t_Ring_init K (E1 Q) [some (.ref x), some (vS l)] H
  have hl := isWord_len hw
  unfold t_Ring_init
  walk_at "go"
  refine u_least_turning (fun e => by rw [e] at hl; simp at hl) (by omega) fun H2 e2 => ?_
  walk_at "go"
  refine u_setRing F (by walk_at "hp") fun H3 e3 h3 => ?_
  exact k _ (by walk_at "exs") h3
end
end WB
namespace WB
theorem minL_spec : ∀ (xs : List (List Nat)) (x : List Nat), minL x xs ∈ x :: xs ∧ ∀ y ∈ x :: xs, minL x xs ≤ y
  | [], x => ⟨by simp [minL], fun y hy => by rw [List.mem_singleton.mp hy]; exact List.le_refl x⟩
  | z :: zs, x => by
    have e : minL x (z :: zs) = minL (if decide (z < x) = true then z else x) zs := rfl
    rw [e]
    by_cases h : z < x
    · rw [if_pos (decide_eq_true h)]
      obtain ⟨h1, h2⟩ := minL_spec zs z
      refine ⟨List.mem_cons_of_mem _ h1, fun y hy => ?_⟩
      rcases List.mem_cons.mp hy with rfl | hy
      · exact List.le_trans (h2 z List.mem_cons_self) (List.not_lt.mp fun h3 => List.lt_irrefl _ (List.lt_trans h h3))
      · exact h2 y hy
    · rw [if_neg (by simpa using h)]
      obtain ⟨h1, h2⟩ := minL_spec zs x
      refine ⟨?_, fun y hy => ?_⟩
      · rcases List.mem_cons.mp h1 with e | h1
        · rw [e]; exact List.mem_cons_self
        · exact List.mem_cons_of_mem _ (List.mem_cons_of_mem _ h1)
      · rcases List.mem_cons.mp hy with rfl | hy
        · exact h2 y List.mem_cons_self
        · rcases List.mem_cons.mp hy with rfl | hy
          · exact List.le_trans (h2 x List.mem_cons_self) (List.not_lt.mp h)
          · exact h2 y (List.mem_cons_of_mem _ hy)
theorem rot_len (l : List Nat) (i : Nat) : (rot l i).length = l.length := by
  unfold rot
  rw [List.length_append, List.length_drop, List.length_take]
  omega
theorem mem_rots {l y : List Nat} : y ∈ rots l ↔ ∃ i, i < l.length ∧ y = rot l i := by
  unfold rots
  rw [List.mem_map]
  constructor
  · rintro ⟨i, hi, rfl⟩; exact ⟨i, List.mem_range.mp hi, rfl⟩
  · rintro ⟨i, hi, rfl⟩; exact ⟨i, List.mem_range.mpr hi, rfl⟩
theorem rots_ne {l : List Nat} (h : l ≠ []) : rots l ≠ [] := by
  intro e
  have := congrArg List.length e
  unfold rots at this
  rw [List.length_map, List.length_range] at this
  exact h (List.length_eq_zero_iff.mp this)
theorem leastT_spec {l : List Nat} (h : l ≠ []) : leastT l ∈ rots l ∧ ∀ y ∈ rots l, leastT l ≤ y := by
  unfold leastT
  cases e : rots l with
  | nil => exact absurd e (rots_ne h)
  | cons x xs => exact minL_spec xs x
theorem leastT_rot {l : List Nat} (h : l ≠ []) : ∃ i, i < l.length ∧ leastT l = rot l i := mem_rots.mp (leastT_spec h).1
theorem leastT_len {l : List Nat} (h : l ≠ []) : (leastT l).length = l.length := by
  obtain ⟨i, _, e⟩ := leastT_rot h
  rw [e, rot_len]
theorem mem_rot {l : List Nat} {i c : Nat} : c ∈ rot l i ↔ c ∈ l := by
  unfold rot
  rw [List.mem_append, or_comm, ← List.mem_append, List.take_append_drop]
theorem leastT_mem {l : List Nat} (h : l ≠ []) {c : Nat} : c ∈ leastT l ↔ c ∈ l := by
  obtain ⟨i, _, e⟩ := leastT_rot h
  rw [e, mem_rot]
section
open PySem PySem.Spec PyProof.Rows L2
theorem Ex.drop {H H1 H2 : Hp} {p : Addr} (hp : H p = none) (a : Ex [] H H1) (b : Ex [p] H1 H2) : Ex [] H H2 := fun x o _ h => b x o (by simpa using ne_of_none h hp) (a x o (by simp) h)
end
theorem isWord_least {l : List Nat} (h : isWord l LET = true) : isWord (leastT l) LET = true := by
  have hl := isWord_len h
  have hn : l ≠ [] := fun e => by rw [e] at hl; simp at hl
  exact isWord_mk (by rw [leastT_len hn]; exact hl.1) (by rw [leastT_len hn]; exact hl.2) fun c hc => isWord_in h c ((leastT_mem hn).mp hc)
end WB
namespace WB
open PySem PySem.Spec PyProof.Rows L2
end WB
namespace WB
open PySem PySem.Spec PyProof.Rows L2
theorem Ex.dropM {H H1 H2 : Hp} {p : Addr} {m : List Addr} (hp : H p = none) (a : Ex m H H1) (b : Ex [p] H1 H2) : Ex m H H2 := fun x o hx h => b x o (by simpa using ne_of_none h hp) (a x o hx h)
theorem plain_let {l : List Nat} (h : ∀ c ∈ l, c ∈ LET) : plain l := fun c hc => by
  have := h c hc
  simp only [LET, List.mem_cons, List.not_mem_nil, or_false] at this
  omega
end WB
namespace WB
open PySem PySem.Spec PyProof.Rows L2
def oddS : List (List Nat) := [[], [97], [97, 98], [65], [97, 32, 98], [97, 97], [97, 10], [97, 98, 99, 100, 101]]
def kA : Key := .inr "a"
inductive OddAt (m : List Addr) (H : Hp) : V → Prop
  | non : OddAt m H .non
  | bl (b : Bool) : OddAt m H (.bl b)
  | int (i : Int) (h : i.natAbs ≤ 10 ^ 38) : OddAt m H (.int i)
  | str (l : List Nat) (h : l ∈ oddS) : OddAt m H (vS l)
  | l0 {a : Addr} (n : a ∉ m) (h : H a = some (.lst [])) : OddAt m H (.ref a)
  | l1 {a : Addr} (n : a ∉ m) (h : H a = some (.lst [vS [97]])) : OddAt m H (.ref a)
  | d0 {a : Addr} (n : a ∉ m) (h : H a = some (.dK [])) : OddAt m H (.ref a)
  | d1 {a : Addr} (n : a ∉ m) (h : H a = some (.dK [(kA, .int 1)])) : OddAt m H (.ref a)
  | t0 {a : Addr} (n : a ∉ m) (h : H a = some (.tup [])) : OddAt m H (.ref a)
  | t1 {a : Addr} (n : a ∉ m) (h : H a = some (.tup [vS [97]])) : OddAt m H (.ref a)
  | t2 {a : Addr} (n : a ∉ m) (h : H a = some (.tup [.int 0, .int 1])) : OddAt m H (.ref a)
  | t3 {a b c d e : Addr} (n : a ∉ m) (nb : b ∉ m) (nc : c ∉ m) (nd : d ∉ m) (ne : e ∉ m) (h : H a = some (.tup [.ref b, .ref c])) (hb : H b = some (.lst [])) (hc : H c = some (.dK [(kA, .ref d)])) (hd : H d = some (.tup [.int 1, .ref e])) (he : H e = some (.lst [])) : OddAt m H (.ref a)
theorem OddAt.ex {m : List Addr} {H H' : Hp} {v : V} (e : Ex m H H') (h : OddAt m H v) : OddAt m H' v := by
  cases h with
  | non => exact .non
  | bl b => exact .bl b
  | int i h => exact .int i h
  | str l h => exact .str l h
  | l0 n h => exact .l0 n (e _ _ n h)
  | l1 n h => exact .l1 n (e _ _ n h)
  | d0 n h => exact .d0 n (e _ _ n h)
  | d1 n h => exact .d1 n (e _ _ n h)
  | t0 n h => exact .t0 n (e _ _ n h)
  | t1 n h => exact .t1 n (e _ _ n h)
  | t2 n h => exact .t2 n (e _ _ n h)
  | t3 n nb nc nd ne h hb hc hd he => exact .t3 n nb nc nd ne (e _ _ n h) (e _ _ nb hb) (e _ _ nc hc) (e _ _ nd hd) (e _ _ ne he)
theorem oddS_len {l : List Nat} (h : l ∈ oddS) : l.length ≤ 5 := by
  simp only [oddS, List.mem_cons, List.not_mem_nil, or_false] at h
  rcases h with rfl | rfl | rfl | rfl | rfl | rfl | rfl | rfl <;> decide
theorem oddS_plain {l : List Nat} (h : l ∈ oddS) : plain l := by
  simp only [oddS, List.mem_cons, List.not_mem_nil, or_false] at h
  rcases h with rfl | rfl | rfl | rfl | rfl | rfl | rfl | rfl <;> (unfold plain; decide)
theorem Kd.dict {K : PySem.W.Frag} {H : Hp} {a : Addr} {kvs : List (Key × V)} (h : H a = some (.dK kvs)) : Kd K H (.ref a) "dict" := ⟨.base (.dK h), by decide +kernel⟩
theorem OddAt.kd {K : PySem.W.Frag} {m : List Addr} {H : Hp} {v : V} (h : OddAt m H v) : (∃ l ∈ oddS, v = vS l) ∨ ∃ n, Kd K H v n ∧ n ≠ "str" := by
  cases h with
  | non => exact .inr ⟨_, .non, by decide⟩
  | bl b => exact .inr ⟨_, .bl, by decide⟩
  | int i h => exact .inr ⟨_, .int, by decide⟩
  | str l h => exact .inl ⟨l, h, rfl⟩
  | l0 n h => exact .inr ⟨_, .lst h, by decide⟩
  | l1 n h => exact .inr ⟨_, .lst h, by decide⟩
  | d0 n h => exact .inr ⟨_, .dict h, by decide⟩
  | d1 n h => exact .inr ⟨_, .dict h, by decide⟩
  | t0 n h => exact .inr ⟨_, .tup (SqT.of h), by decide⟩
  | t1 n h => exact .inr ⟨_, .tup (SqT.of h), by decide⟩
  | t2 n h => exact .inr ⟨_, .tup (SqT.of h), by decide⟩
  | t3 n nb nc nd ne h hb hc hd he => exact .inr ⟨_, .tup (SqT.of h), by decide⟩
def sp_law_odd (K : PySem.W.Frag) : Sp := fun vs H Q _ => ∃ a : Addr, vs = [.ref a] ∧ PoolAt H a ∧ ∀ (v : V) (H' : Hp), Ex [a] H H' → PoolAt H' a → OddAt [a] H' v → Q v H'
section
variable {K : PySem.W.Frag} {H : Hp} {Q : VK} {E : XK}
theorem u_odd {a : Addr} (hp : PoolAt H a) (k : ∀ (v : V) (H' : Hp), Ex [a] H H' → PoolAt H' a → OddAt [a] H' v → Q v H') : sp_law_odd K ([.ref a] ++ []) H Q E := ⟨_, rfl, hp, k⟩
theorem s_dnew (k : ∀ p H2, H p = none → Ex [] H H2 → H2 p = some (.dK []) → Q (.ref p) H2) {σ : St} : tDNewK σ H Q := fun p hp => k p _ hp (Ex.new hp) upd_same
theorem s_disp1 {σ : St} {ta tb : TE} {z : Key} {v : V} (h : ∀ p H1, H p = none → Ex [] H H1 → H1 p = some (.dK []) → ∀ R : List (V × V) → Hp → Prop, (∀ H2, Ex [] H1 H2 → R [(kV z, v)] H2) → tPairs [(ta, tb)] σ H1 R) (k : ∀ p H2, H p = none → Ex [] H H2 → H2 p = some (.dK [(z, v)]) → Q (.ref p) H2) : tDisp [(ta, tb)] σ H Q := by
  intro p hp
  refine h p _ hp (Ex.new hp) upd_same _ fun H2 e => ⟨e p _ (by simp) upd_same, [(z, v)], rfl, by simp, k p _ hp ?_ ?_⟩
  · intro b o _ hb
    rw [upd_ne (ne_of_none hb hp)]
    exact e b o (by simp) (by rw [upd_ne (ne_of_none hb hp)]; exact hb)
  · exact upd_same
theorem s_pairs1 {σ : St} {ta tb : TE} {R : List (V × V) → Hp → Prop} (k : ta σ H fun x H1 => tb σ H1 fun y H2 => R [(x, y)] H2) : tPairs [(ta, tb)] σ H R := k
theorem lc_fmR {n j : Nat} {lo : Int} {tt : TT} {te : TE} {σ : St} (hn : n ≤ 100000) (p : Nat → Bool) (val : Nat → V)
    (h : ∀ (i : Nat) (H1 : Hp) (C1 : VK) (C0 : Hp → Prop), i < n → Ex [] H H1 → (∀ H2, Ex [] H1 H2 → p i = true → C1 (val i) H2) → (∀ H2, Ex [] H1 H2 → p i = false → C0 H2) →
      tt ((wipe σ [j]).set j (some (.int (lo + i)))) H1 fun b H2 => if b = true then te ((wipe σ [j]).set j (some (.int (lo + i)))) H2 C1 else C0 H2)
    (k : ∀ D H', H D = none → Ex [] H H' → H' D = some (.lst (((List.range n).filter p).map val)) → Q (.ref D) H') : LcW (Itr lo n) (gName j) tt te [j] σ H Q := by
  refine lc_run walk_range hn [] (fun _ => True) (fun i acc _ => acc = ((List.range i).filter p).map val) (by simp) trivial (by simp) (fun _ _ _ _ _ => trivial) (fun _ _ _ _ _ _ h => h) (fun _ _ => trivial) ?_ ?_
  · rintro i acc x H1 H2 C1 C0 hi e _ rfl ⟨rfl, rfl⟩ k1 k0
    refine ⟨wipe1 _ _ _, ?_⟩
    refine h i H2 C1 C0 hi e (fun H5 e5 hp => k1 _ H5 e5 trivial ?_) (fun H5 e5 hp => k0 H5 e5 trivial ?_)
    · rw [List.range_succ, List.filter_append, List.map_append]
      simp [hp]
    · rw [List.range_succ, List.filter_append, List.map_append]
      simp [hp]
  · rintro D H' ys hD e _ hd _ rfl
    exact k D H' hD e hd
theorem dp_all {f : α → V} {g : α → PyData} (h : ∀ x, Dp K H (f x) (g x)) : ∀ l : List α, DpAll K H (l.map f) (l.map g)
  | [] => .nil
  | x :: l => .cons (h x) (dp_all h l)
theorem canLay_all {g : α → PyData} (h : ∀ x, PyData.canLay0 (g x) = true) : ∀ l : List α, PyData.canLayAll0 (l.map g) = true
  | [] => by simp [PyData.canLayAll0]
  | x :: l => by
    rw [List.map_cons, PyData.canLayAll0]
    exact Bool.and_eq_true_iff.mpr ⟨h x, canLay_all h l⟩
theorem depth_all {g : α → PyData} (h : ∀ x, PyData.depth (g x) = 0) : ∀ l : List α, PyData.depthAll (l.map g) = 0
  | [] => by simp [PyData.depthAll]
  | x :: l => by
    rw [List.map_cons, PyData.depthAll, depth_all h l, h x]
    rfl
theorem shaped_ints (l : List Int) : SeqAt.shaped (.list (l.map PyData.int)) = true := by
  unfold SeqAt.shaped
  refine Bool.and_eq_true_iff.mpr ⟨?_, decide_eq_true ?_⟩
  · rw [PyData.canLay0]; exact canLay_all (fun x => by simp [PyData.canLay0]) l
  · rw [PyData.depth, depth_all (fun x => by simp [PyData.depth]) l]; omega
theorem eqv_nil {ds : List PyData} : PyData.eqv (.list ds) (.list []) = ds.isEmpty := by
  cases ds with
  | nil => simp [PyData.eqv, PyData.eqvAll]
  | cons d ds => simp [PyData.eqv, PyData.eqvAll]
theorem s_eqLSnil {a b : Addr} {ls : List (List Nat)} (h1 : SqL K H a (ls.map vS)) (h2 : SqL K H b []) (p1 : ∀ l ∈ ls, plain l) (k : Q (.bl ls.isEmpty) H) : rEqD K (.ref a) (.ref b) H Q := by
  refine ⟨_, _, .lst h1 (dp_strs ls), .lst h2 .nil, shaped_strs p1, by decide +kernel, ?_⟩
  rw [eqv_nil]
  cases ls <;> exact k
end
end WB
namespace WB
open PySem PySem.Spec PyProof.Rows L2
def ndc {α : Type} [DecidableEq α] : List α → Nat
  | [] => 0
  | x :: r => if x ∈ r then ndc r else ndc r + 1
theorem ndc_le {α : Type} [DecidableEq α] : ∀ l : List α, ndc l ≤ l.length
  | [] => Nat.le_refl _
  | x :: r => by
    have := ndc_le r
    rw [ndc, List.length_cons]
    split <;> omega
theorem ndc_full {α : Type} [DecidableEq α] : ∀ l : List α, ndc l = l.length ↔ l.Nodup
  | [] => by simp [ndc]
  | x :: r => by
    have h1 := ndc_le r
    rw [ndc, List.length_cons, List.nodup_cons, ← ndc_full r]
    split
    · rename_i h
      constructor
      · intro z; omega
      · intro z; exact absurd h z.1
    · rename_i h
      constructor
      · intro z; exact ⟨h, by omega⟩
      · intro z; omega
theorem take_rev {α : Type} {xs : List α} {i : Nat} (h : i < xs.length) : (xs.take (i + 1)).reverse = xs[i] :: (xs.take i).reverse := by
  rw [List.take_add_one, List.getElem?_eq_getElem h]
  simp
section
variable {prog : Program} {w : World} {A : Around} {R : Result → Shared → Prop} {J : Addr} {fp wr : List Addr} {n : Nat} {P : Nat → Value → Prop} {St : Nat → Heap → Prop}
theorem setLoop (W : Walks prog w A.in1 J fp wr n P St) (c : Addr) (hc : c ∉ fp) (xs : List Str) (hx : xs.length = n) (hb : n < 4000) (hv : ∀ i v, P i v → ∃ t, v = .str (xs.getD i Str.empty) t) :
    ∀ (m i : Nat) (s : Shared), n - i = m → i ≤ n → St i s.heap → s.heap.SetOf (PySem.strKind prog w) c (fun z => decide (z ∈ xs.take i)) (ndc (xs.take i).reverse) →
      (∀ h' tk, (∀ b o, b ∉ c :: wr → s.heap.get? b = some o → h'.get? b = some o) → h'.SetOf (PySem.strKind prog w) c (fun z => decide (z ∈ xs)) (ndc xs.reverse) → R (.ok (.ret .none)) { s with heap := h', toks := tk }) →
      codeAny (model prog w) A (.builtin "set.update.loop" ⟨[.ref c, .ref J], []⟩) R s := by
  have cw : c ∉ wr := fun z => hc (W.sub _ z)
  intro m
  induction m with
  | zero =>
    intro i s e1 e2 st hs k
    obtain rfl : i = n := by omega
    refine codeAny_builtin PyProof.Rows.F.entry_set_update_loop ?_
    rw [Around.under_plainId PyProof.Rows.F.plain_set_update_loop _]
    show wpAny _ _ (pyNext (.ref J) >>= _) _ _ _
    refine wpAny_bind (W.done s _ _ st fun h1 t1 k1 => ?_)
    refine (show wpAny _ _ (ret Value.none) _ _ _ from wpAny_pure (k h1 t1 (fun b o z => k1 b o fun y => z (List.mem_cons_of_mem _ y)) ?_))
    rw [List.take_of_length_le (by omega)] at hs
    obtain ⟨o, es, ep, t, ho, r⟩ := hs
    exact ⟨o, es, ep, t, k1 c o cw ho, r⟩
  | succ m ih =>
    intro i s e1 e2 st hs k
    have lt : i < n := by omega
    have lt2 : i < xs.length := by omega
    refine codeAny_builtin PyProof.Rows.F.entry_set_update_loop ?_
    rw [Around.under_plainId PyProof.Rows.F.plain_set_update_loop _]
    show wpAny _ _ (pyNext (.ref J) >>= _) _ _ _
    refine wpAny_bind (W.item i s _ _ lt st fun v h1 t1 hP st1 k1 => ?_)
    obtain ⟨t, rfl⟩ := hv i v hP
    have eg : xs.getD i Str.empty = xs[i] := by rw [List.getD_eq_getElem?_getD, List.getElem?_eq_getElem lt2]; rfl
    rw [eg]
    have hs1 : h1.SetOf (PySem.strKind prog w) c (fun z => decide (z ∈ xs.take i)) (ndc (xs.take i).reverse) := by
      obtain ⟨o, es, ep, t', ho, r⟩ := hs
      exact ⟨o, es, ep, t', k1 c o cw ho, r⟩
    have hl := ndc_le (xs.take i).reverse
    rw [List.length_reverse, List.length_take] at hl
    show wpAny _ _ (holding [Value.str xs[i] t] (setAdd c (.str xs[i] t)) >>= _) _ _ _
    unfold setAdd
    refine wpAny_bind (wpAny_holding (wpAny_holding (wpAny_bind ((PySem.strKind prog w).pyHash (k := xs[i]) (strKind_is _ _ _ _) ?_))))
    refine wpAny_setAddHashed_of (knd := PySem.strKind prog w) (s := ⟨h1, s.gens, s.drawn, t1 + 1, s.os⟩) (strKind_is _ _ _ _) rfl hs1 (by unfold scanBound; omega) fun h2 sb hs2 => ?_
    have hs3 : h2.SetOf (PySem.strKind prog w) c (fun z => decide (z ∈ xs.take (i + 1))) (ndc (xs.take (i + 1)).reverse) := by
      refine SetOf_congr hs2 (fun z => ?_) ?_
      · rw [List.take_add_one, List.getElem?_eq_getElem lt2, Bool.eq_iff_iff, Bool.or_eq_true, decide_eq_true_iff, decide_eq_true_iff, decide_eq_true_iff, List.mem_append]
        simp
      · rw [take_rev lt2, ndc]
        simp
    refine wpAny_pure ⟨plainId_quiet PyProof.Rows.F.plain_set_update_loop _, ih (i + 1) ⟨h2, s.gens, s.drawn, t1 + 1, s.os⟩ (by omega) lt (W.frame _ h1 _ st1 fun b hbf o e => ?_) hs3 fun h3 t3 k3 hs4 => ?_⟩
    · rw [sb.2 b (fun z : b = c => hc (by rw [← z]; exact hbf))]; exact e
    · refine k h3 t3 (fun b o z e => k3 b o z ?_) hs4
      rw [sb.2 b (fun y : b = c => z (by rw [y]; exact List.mem_cons_self))]
      exact k1 b o (fun y => z (List.mem_cons_of_mem _ y)) e
end
section
variable {prog : Program} {w : World} {A : Around} {E : Value → Shared → Prop} {s : Shared}
abbrev newSetO (led : Bool) : Obj := { cls := .type "set", dict := none, data := .set #[] 0 (.fresh 0 0 led) }
structure Src (prog : Program) (w : World) (h : Heap) (src : Value) (xs : List Str) : Prop where
  any : ∀ {A : Around} {E : Value → Shared → Prop} {s : Shared} {Q : Bool → Shared → Prop}, (∀ b o, h.get? b = some o → s.heap.get? b = some o) → Q false s → wpAny (model prog w) A (Builtin.Frozenset.isAnySet src) Q E s
  ty : ∀ {A : Around} {E : Value → Shared → Prop} {s : Shared} {Q : Value → Shared → Prop}, (∀ b o, h.get? b = some o → s.heap.get? b = some o) → (∀ t, (t == Value.type "dict") = false → Q t s) → wpAny (model prog w) A (typeOf src) Q E s
  it : ∀ {A : Around} {E : Value → Shared → Prop} {s : Shared} {Q : Value → Shared → Prop}, (∀ b o, h.get? b = some o → s.heap.get? b = some o) →
    (∀ (o : Obj) (fp : List Addr) (P : Nat → Value → Prop) (St : Nat → Heap → Prop), (∀ b ∈ fp, b = s.heap.objs.size ∨ b < h.objs.size) → (∀ i v, P i v → ∃ t, v = .str (xs.getD i Str.empty) t) →
      (∀ A' : Around, A'.handled = none → Walks prog w A' s.heap.objs.size fp [s.heap.objs.size] xs.length P St) → St 0 (s.heap.push o) → Q (.ref s.heap.objs.size) { s with heap := s.heap.push o }) → wpAny (model prog w) A (pyIter src) Q E s
theorem updFrom {src : Value} {xs : List Str} {s0 : Heap} {c : Addr} {id : String} {led : Bool} {Q : Unit → Shared → Prop} (hh : A.handled = none) (hs : Src prog w s0 src xs) (hb : xs.length < 4000) (up : ∀ b o, s0.get? b = some o → s.heap.get? b = some o) (hc : s0.objs.size ≤ c) (ho : s.heap.get? c = some (newSetO led))
    (h : ∀ (h' : Heap) (tk : Nat), h'.SetOf (PySem.strKind prog w) c (fun z => decide (z ∈ xs)) (ndc xs.reverse) → (∀ b o, b ≠ c → s.heap.get? b = some o → h'.get? b = some o) → Q () { s with heap := h', toks := tk }) :
    wpAny (model prog w) A (Builtin.Frozenset.updateFrom id c src) Q E s := by
  unfold Builtin.Frozenset.updateFrom
  refine wpAny_bind (hs.any up ?_)
  show wpAny _ _ (do let __do_lift ← typeOf src; _) _ _ _
  refine wpAny_bind (hs.ty up fun t ht => ?_)
  rw [ht]
  show wpAny _ _ (pyIter src >>= _) _ _ _
  refine wpAny_bind (hs.it up fun o fp P St hfp hv hW st => ?_)
  refine wpAny_bind (wpAny_runValue ?_)
  have lt : c < s.heap.objs.size := Heap.lt_size ho
  refine setLoop (hW _ (by simp [hh])) c ?_ xs rfl hb hv (xs.length - 0) 0 { s with heap := s.heap.push o } rfl (Nat.zero_le _) st ?_ fun h' tk k hS => ?_
  · intro z
    rcases hfp c z with e | e
    · exact Nat.ne_of_lt lt e
    · exact Nat.not_lt.mpr hc e
  · exact PyProof.Rows.SetOf_congr ((PyProof.Rows.setObjOf_fresh (knd := PySem.strKind prog w) led).setOf (Heap.get?_push_of_some o ho) (by unfold scanBound; omega)) (fun z => by simp) (by simp [ndc])
  · refine wpAny_pure (h h' tk hS fun b u nb e => k b u ?_ (Heap.get?_push_of_some o e))
    have := Heap.lt_size e
    simp only [List.mem_cons, List.not_mem_nil, or_false, not_or]
    exact ⟨nb, Nat.ne_of_lt this⟩
theorem call_setS {src : Value} {xs : List Str} {Q : Value → Shared → Prop} (hh : A.handled = none) (hs : Src prog w s.heap src xs) (hb : xs.length < 4000)
    (h : ∀ (h' : Heap) (tk : Nat), h'.SetOf (PySem.strKind prog w) s.heap.objs.size (fun z => decide (z ∈ xs)) (ndc xs.reverse) → (∀ b o, s.heap.get? b = some o → h'.get? b = some o) → Q (.ref s.heap.objs.size) { s with heap := h', toks := tk }) :
    wpAny (model prog w) A (call (.type "set") [src]) Q E s := by
  obtain ⟨c, tl, hmro⟩ := PySem.F.called_set.mro
  have q1 := PySem.F.called_set.made
  have q2 := PySem.F.called_set.sub
  have q3 := PySem.F.called_set.notType
  have q4 := PySem.F.called_set.canCreate
  have q5 := PySem.F.typeCall_set_1 src
  refine wpAny_call (codeAny_of_tree (show wpAny _ _ (callAny (.type "set") _) _ _ _ from wpAny_pure ⟨Code.quiet_builtin _ (by decide +kernel), codeAny_builtin PySem.F.entry_type_call ?_⟩))
  rw [Around.under_plain (weight_type_call_type "set" [src] []) rfl]
  repeat (any_goals (first | assumption | wp_step))
  refine codeAny_mono (code_set_new_1 src (E := E) (Q₁ := fun o s₁ => ∃ led : Bool, o = .ref s.heap.objs.size ∧ s₁ = { s with heap := s.heap.push (newSetO led) }) fun led => ⟨led, rfl, rfl⟩) fun r s₁ hr => ?_
  cases r with
  | error e => exact hr
  | ok fl =>
    cases fl with
    | ret o1 =>
      obtain ⟨led, rfl, rfl⟩ := hr
      have hS : (s.heap.push (newSetO led)).get? s.heap.objs.size = some (newSetO led) := Heap.get?_push_size _ rfl
      have hT : Shared.TypeIs { s with heap := s.heap.push (newSetO led) } (.ref s.heap.objs.size) "set" := ⟨_, hS, rfl⟩
      have q6 := PySem.F.called_set.init.lookup
      have q7 := PySem.F.called_set.init.bind (.ref s.heap.objs.size)
      repeat (any_goals (first | assumption | wp_step))
      refine codeAny_mono (codeAny_call_builtin (R := wants (fun r s₂ => r = .none ∧ ∃ h' tk, s₂ = { s with heap := h', toks := tk } ∧ h'.SetOf (PySem.strKind prog w) s.heap.objs.size (fun z => decide (z ∈ xs)) (ndc xs.reverse) ∧
          (∀ b o, s.heap.get? b = some o → h'.get? b = some o)) E) PySem.F.called_set.init.plain PySem.F.entry_set_init (check_set_init_1 hT ?_)) fun r₂ s₂ hr₂ => ?_
      · have up : ∀ b o, s.heap.get? b = some o → (s.heap.push (newSetO led)).get? b = some o := fun b o e => Heap.get?_push_of_some _ e
        unfold Builtin.«set.__init__» noKeywords
        generalize hPI : Builtin.Frozenset.updateFrom = UF
        wp_walk
        subst hPI
        refine updFrom (s := { s with heap := s.heap.push (newSetO led) }) (by simp [hh]) hs hb up (Nat.le_refl _) hS fun h' tk x1 x2 => ?_
        refine (show wpAny _ _ (ret Value.none) _ _ _ from wpAny_pure ⟨rfl, h', tk, rfl, x1, fun b o e => x2 b o (Nat.ne_of_lt (Heap.lt_size e)) (up b o e)⟩)
      · cases r₂ with
        | error e => exact hr₂
        | ok fl₂ =>
          cases fl₂ with
          | ret r =>
            obtain ⟨rfl, h', tk, rfl, x1, x2⟩ := hr₂
            repeat (any_goals (first | assumption | wp_step))
            exact h _ _ x1 x2
          | _ => exact hr₂.elim
    | _ => exact hr.elim
theorem src_str {h : Heap} (x : Str) (u : Tok) : Src prog w h (.str x u) (x.cps.toList.map fun c => ⟨#[c]⟩) where
  any := fun _ q => L2.Fz.anySet q
  ty := fun _ q => wpAny_typeOf (typeIs_str _ _ _) (q _ (by decide))
  it := fun {A E s Q} _ q => wpAny_pyIter_str fun o St hW st => by
    refine q o [s.heap.objs.size] (SignAt x) St (fun b hb => .inl (List.mem_singleton.mp hb)) (fun i v hv => ?_) (fun A' hA => ?_) st
    · obtain ⟨c, u, hc, e⟩ := hv
      refine ⟨u, ?_⟩
      rw [e, List.getD_eq_getElem?_getD, List.getElem?_map, Array.getElem?_toList, hc]
      rfl
    · have e : (x.cps.toList.map fun c => (⟨#[c]⟩ : Str)).length = x.cps.size := by simp
      rw [e]
      exact hW A' hA
theorem src_list {h : Heap} {l : Addr} {items : Array Value} {xs : List Str} (hl : h.IsList l items) (hx : StrsAre items.toList xs) : Src prog w h (.ref l) xs where
  any := fun {A E s Q} up q => by
    have T : s.TypeIs (.ref l) "list" := by
      obtain ⟨o, ho, hc, _⟩ := hl
      exact ⟨o, up _ _ ho, hc⟩
    unfold Builtin.Frozenset.isAnySet
    exact wpAny_bind (wpAny_isInstance T PySem.F.sub_list_set (show wpAny _ _ (isInstance (.ref l) (.type "frozenset")) _ _ _ from wpAny_isInstance T PySem.F.sub_list_frozenset q))
  ty := fun {A E s Q} up q => by
    have T : s.TypeIs (.ref l) "list" := by
      obtain ⟨o, ho, hc, _⟩ := hl
      exact ⟨o, up _ _ ho, hc⟩
    exact wpAny_typeOf T (q _ (by decide))
  it := fun {A E s Q} up q => by
    have hl2 : s.heap.IsList l items := hl.at fun o e => up _ _ e
    have hlt : l < h.objs.size := by
      obtain ⟨o, ho, _⟩ := hl
      exact Heap.lt_size ho
    have hlt2 : l < s.heap.objs.size := by
      obtain ⟨o, ho, _⟩ := hl2
      exact Heap.lt_size ho
    refine wpAny_pyIter_list hl2 (q _ [s.heap.objs.size, l] (fun i v => items[i]? = some v) (fun i h => h.IsListIter s.heap.objs.size l i ∧ h.IsList l items) (fun b hb => ?_) (fun i v hv => ?_) (fun A' hA => ?_) ?_)
    · simp only [List.mem_cons, List.not_mem_nil, or_false] at hb
      rcases hb with rfl | rfl
      · exact .inl rfl
      · exact .inr hlt
    · exact SS.strs_at hx i v (by rw [Array.getElem?_toList]; exact hv)
    · have e : xs.length = items.size := by rw [← StrsAre.len_eq hx, Array.length_toList]
      rw [e]
      exact Walks.list hA _ l (Nat.ne_of_lt hlt2) items
    · exact ⟨⟨_, Heap.get?_push_size _ rfl, rfl, rfl⟩, hl2.push _⟩
end
def rSetN (K : PySem.W.Frag) (x : V) (H : Hp) (Q : VK) : Prop := (∃ l : List Nat, x = vS l ∧ l.length < 4000 ∧ Q (.int (ndc l.reverse : Nat)) H) ∨ (∃ (a : Addr) (ls : List (List Nat)), x = .ref a ∧ SqL K H a (ls.map vS) ∧ ls.length < 4000 ∧ Q (.int (ndc ls.reverse : Nat)) H)
def tLenSetS (K : PySem.W.Frag) (ta : TE) : TE := fun σ H Q => ta σ H fun x H1 => rSetN K x H1 Q
theorem ndc_map {α β : Type} [DecidableEq α] [DecidableEq β] (f : α → β) (hf : ∀ x y, f x = f y → x = y) : ∀ l : List α, ndc (l.map f) = ndc l
  | [] => rfl
  | x :: r => by
    rw [List.map_cons, ndc, ndc, ndc_map f hf r]
    have : f x ∈ r.map f ↔ x ∈ r := ⟨fun h => by
      obtain ⟨y, hy, e⟩ := List.mem_map.mp h
      rw [← hf _ _ e]; exact hy, fun h => List.mem_map_of_mem h⟩
    by_cases h : x ∈ r
    · rw [if_pos h, if_pos (this.mpr h)]
    · rw [if_neg h, if_neg fun z => h (this.mp z)]
theorem pe_lenSetS {X : Cx} {a : Expr} {ta : TE} {p p2 q pos : Pos} (hc : X.calm = true) (hg : Gl X "len") (hm : X.mg "len" = none) (hg2 : Gl X "set") (hm2 : X.mg "set" = none) (ha : PE X a ta)
    (na : starEach [a] X.env = (false, eval a X.env) :: starEach [] X.env := by rfl) : PE X (.Call (.Name "len" p) [.Call (.Name "set" p2) [a] [] q] [] pos) (tLenSetS X.K ta) := by
  refine ⟨fun pins s σ H Q I h => Call_ (ld_blt I hg hm boot_len ?_)⟩
  refine PyProof.Rows.callWith_builtin1 (PyProof.Rows.args_cons (Call_ (ld_blt I hg2 hm2 boot_set ?_)) rfl) rfl rfl
  refine PyProof.Rows.callWith_type1 (PyProof.Rows.args_cons (thn (ha.run pins s σ H _ I h) fun v s1 ⟨x, H1, I1, r1, q1⟩ => PyProof.Rows.args_nil ?_) na) na rfl
  have fin : ∀ (n : Nat) (xs : List Str), n < 4000 → ndc xs.reverse = n → Q (.int n) H1 → ∀ (h' : Heap) (tk : Nat), h'.SetOf (PySem.strKind X.prog X.w) s1.heap.objs.size (fun z => decide (z ∈ xs)) (ndc xs.reverse) → (∀ b o, s1.heap.get? b = some o → h'.get? b = some o) →
      wpAny (model X.prog X.w) X.A (spliced (backTo pos (starEach [] X.env))) (fun vs s₂ => wpAny (model X.prog X.w) X.A (call (.builtin "len") (Value.ref s1.heap.objs.size :: vs)) (EP X pins σ Q) X.xe s₂) X.xe { s1 with heap := h', toks := tk } := fun n xs hn en qn h' tk hS hk => by
    refine PyProof.Rows.args_nil ?_
    rw [en] at hS
    obtain ⟨o, es, ep, t, ho, hex, hd, _, _, _, hf, hz⟩ := hS
    have I2 : Inv X pins σ H1 { s1 with heap := h', toks := tk } := I1.kept hk
    exact call_len_set ho hex hd hf (by rw [hz]; omega) ⟨.int n, H1, I2.tok _, ⟨_, by rw [hz]⟩, qn⟩
  rcases q1 with ⟨l, rfl, hl, qq⟩ | ⟨b, ls, rfl, hq, hl, qq⟩
  · obtain ⟨u, rfl⟩ := r1
    have e1 : (S l).cps.toList = l := S_cps l
    have e2 : ndc ((S l).cps.toList.map fun c => (⟨#[c]⟩ : Str)).reverse = ndc l.reverse := by
      rw [e1, ← List.map_reverse]
      exact ndc_map _ (fun x y e => by simpa using e) _
    have hle := ndc_le l.reverse
    rw [List.length_reverse] at hle
    refine call_setS (I1.ok.hd hc) (src_str (S l) u) (by rw [e1, List.length_map]; exact hl) (fin (ndc l.reverse) _ (by omega) e2 qq)
  · obtain rfl : v = Value.ref b := r1
    obtain ⟨its, rv, pl, hz⟩ := I1.list hq
    have hst : StrsAre its (ls.map S) := strsAre_of (by rw [List.map_map]; exact rv)
    have e2 : ndc (ls.map S).reverse = ndc ls.reverse := by
      rw [← List.map_reverse]
      exact ndc_map _ (fun x y e => S_inj e) _
    have hle := ndc_le ls.reverse
    rw [List.length_reverse] at hle
    exact call_setS (I1.ok.hd hc) (src_list pl.isList (by simpa using hst)) (by rw [List.length_map]; exact hl) (fin (ndc ls.reverse) _ (by omega) e2 qq)
end WB
namespace WB
open PySem PySem.Spec PyProof.Rows L2
theorem eqV_S {a b : List Nat} : eqV (vS a) (vS b) = decide (a = b) := by
  show (S a == S b) = decide (a = b)
  rw [Bool.eq_iff_iff, beq_iff_eq, decide_eq_true_iff]
  exact ⟨S_inj, fun e => by rw [e]⟩
theorem inV_S {x : List Nat} {ls : List (List Nat)} : inV (vS x) (ls.map vS) = decide (x ∈ ls) := by
  unfold inV
  rw [List.any_map, Bool.eq_iff_iff, List.any_eq_true, decide_eq_true_iff]
  constructor
  · rintro ⟨y, hy, e⟩
    have e : eqV (vS y) (vS x) = true := e
    rw [eqV_S] at e
    rw [← of_decide_eq_true e]; exact hy
  · intro h
    exact ⟨x, h, by show eqV (vS x) (vS x) = true; rw [eqV_S]; simp⟩
theorem flat_S : ∀ ls : List (List Nat), (ls.map vS).all flatV = true
  | [] => rfl
  | x :: r => by rw [List.map_cons, List.all_cons, flat_S r]; rfl
section
variable {K : PySem.W.Frag} {H : Hp} {Q : VK} {E : XK}
theorem s_inL {a : Addr} {x : List Nat} {ls : List (List Nat)} (h : SqL K H a (ls.map vS)) (k : Q (.bl (decide (x ∈ ls))) H) : rIn K false (vS x) (.ref a) H Q := ⟨a, _, rfl, .inl h, rfl, flat_S ls, by rw [inV_S]; exact k⟩
theorem s_notInT {a : Addr} {x : List Nat} {ls : List (List Nat)} (h : SqT K H a (ls.map vS)) (k : Q (.bl (!decide (x ∈ ls))) H) : rIn K true (vS x) (.ref a) H Q := ⟨a, _, rfl, .inr h, rfl, flat_S ls, by rw [inV_S]; exact k⟩
theorem s_inT {a : Addr} {x : List Nat} {ls : List (List Nat)} (h : SqT K H a (ls.map vS)) (k : Q (.bl (decide (x ∈ ls))) H) : rIn K false (vS x) (.ref a) H Q := ⟨a, _, rfl, .inr h, rfl, flat_S ls, by rw [inV_S]; exact k⟩
theorem s_lenSet {ta : TE} {σ : St} (k : ta σ H fun x H1 => rSetN K x H1 Q) : tLenSetS K ta σ H Q := k
theorem s_setNS {l : List Nat} (hl : l.length < 4000) (k : Q (.int (ndc l.reverse : Nat)) H) : rSetN K (vS l) H Q := .inl ⟨l, rfl, hl, k⟩
end
end WB
namespace WB
open PySem PySem.Spec PyProof.Rows L2
def srt (ls : List (List Nat)) : List (List Nat) := ls.mergeSort fun a b => decide (a ≤ b)
theorem srt_perm (ls : List (List Nat)) : (srt ls).Perm ls := List.mergeSort_perm _ _
theorem srt_pair (ls : List (List Nat)) : (srt ls).Pairwise (· ≤ ·) := by
  have h := List.pairwise_mergeSort (le := fun a b : List Nat => decide (a ≤ b)) (fun a b c h1 h2 => decide_eq_true (List.le_trans (of_decide_eq_true h1) (of_decide_eq_true h2))) (fun a b => by
    rcases List.le_total a b with h | h
    · simp [h]
    · simp [h]) ls
  exact h.imp fun h => of_decide_eq_true h
theorem srt_unique {ys ls : List (List Nat)} (p : ys.Perm ls) (h : ys.Pairwise (· ≤ ·)) : ys = srt ls :=
  (p.trans (srt_perm ls).symm).eq_of_pairwise (fun a b _ _ h1 h2 => List.le_antisymm h1 h2) h (srt_pair ls)
theorem srt_len (ls : List (List Nat)) : (srt ls).length = ls.length := (srt_perm ls).length_eq
theorem srt_mem {ls : List (List Nat)} {x : List Nat} : x ∈ srt ls ↔ x ∈ ls := (srt_perm ls).mem_iff
theorem srt_of_perm {ls ms : List (List Nat)} (p : ls.Perm ms) : srt ls = srt ms := srt_unique ((srt_perm ls).trans p) (srt_pair ls)
theorem srt_id {ls : List (List Nat)} (h : ls.Pairwise (· ≤ ·)) : srt ls = ls := (srt_unique (List.Perm.refl ls) h).symm
theorem rising_pair : ∀ (r : List (List Nat)) (x : List Nat), risingS (S x) (r.map S) = true → (x :: r).Pairwise (· ≤ ·)
  | [], x, _ => by simp
  | y :: r, x, h => by
    rw [List.map_cons, risingS, Bool.and_eq_true, S_cps, S_cps, ltCps_eq] at h
    have h1 : x ≤ y := by
      have : ¬ y < x := by simpa using h.1
      exact List.not_lt.mp this
    have h2 := rising_pair r y h.2
    refine List.pairwise_cons.mpr ⟨fun z hz => ?_, h2⟩
    rcases List.mem_cons.mp hz with rfl | hz
    · exact h1
    · exact List.le_trans h1 ((List.pairwise_cons.mp h2).1 z hz)
theorem sortedS_pair {ls : List (List Nat)} (h : sortedS (ls.map S) = true) : ls.Pairwise (· ≤ ·) := by
  cases ls with
  | nil => simp
  | cons x r => exact rising_pair r x h
theorem perm_S {ys : List Str} {ls : List (List Nat)} (p : ys.Perm (ls.map S)) : ∃ ms : List (List Nat), ys = ms.map S ∧ ms.Perm ls := by
  refine ⟨ys.map fun z => z.cps.toList, ?_, ?_⟩
  · rw [List.map_map]
    conv => lhs; rw [← List.map_id ys]
    exact List.map_congr_left fun z _ => S_of z
  · have h := p.map fun z : Str => z.cps.toList
    rw [List.map_map] at h
    have e : ls.map ((fun z : Str => z.cps.toList) ∘ S) = ls := by
      conv => rhs; rw [← List.map_id ls]
      exact List.map_congr_left fun z _ => S_cps z
    rw [e] at h
    exact h
theorem srt_S {ys : List Str} {ls : List (List Nat)} (p : ys.Perm (ls.map S)) (h : sortedS ys = true) : ys.map V.str = (srt ls).map vS := by
  obtain ⟨ms, rfl, pm⟩ := perm_S p
  rw [srt_unique pm (sortedS_pair h), List.map_map]
  rfl
def SrcV (K : PySem.W.Frag) (H : Hp) (x : V) (ls : List (List Nat)) : Prop := (∃ l : List Nat, x = vS l ∧ ls = l.map fun c => [c]) ∨ (∃ a, x = .ref a ∧ (SqL K H a (ls.map vS) ∨ SqT K H a (ls.map vS)))
def rSrt (K : PySem.W.Frag) : List V → Hp → VK → Prop := fun xs H Q => ∃ (x : V) (ls : List (List Nat)), xs = [x] ∧ SrcV K H x ls ∧ ls.length < 64 ∧ ∀ p, H p = none → Q (.ref p) (upd H p (.lst ((srt ls).map vS)))
section
variable {X : Cx}
theorem collect_src {pins : List (Addr × Obj)} {σ : L2.St} {H : Hp} {s : Shared} {A : Around} {E : Value → Shared → Prop} {x : V} {v : Value} {ls : List (List Nat)} {R : List Value → Shared → Prop} (I : Inv X pins σ H s) (hh : A.handled = none) (rx : RelV x v) (hs : SrcV X.K H x ls) (h64 : ls.length < 64)
    (h : ∀ (h' : Heap) (tk : Nat) (its : List Value), (∀ b o, s.heap.get? b = some o → h'.get? b = some o) → StrsAre its (ls.map S) → R its { s with heap := h', toks := tk }) : wpAny (model X.prog X.w) A (collect v) R E s := by
  rcases hs with ⟨l, rfl, rfl⟩ | ⟨a, rfl, hq | hq⟩
  · obtain ⟨t, rfl⟩ := rx
    have hz : (S l).cps.size = l.length := by simp [S]
    rw [List.length_map] at h64
    refine wpAny_collect_str hh (S l) t (fun s' acc k g d os hi => ?_) (by rw [hz, sizeLine_eq]; omega)
    obtain ⟨h', g', d', t', o'⟩ := s'
    cases g
    cases d
    cases os
    refine h h' t' acc.toList k (L2.strs_at (by rw [Array.length_toList, hi.1, List.length_map, List.length_map, hz]) fun j v e => ?_)
    obtain ⟨c, u, hc, ev⟩ := hi.2 j v (by rw [← Array.getElem?_toList]; exact e)
    have hc : l[j]? = some c := by simpa [S] using hc
    exact ⟨S [c], u, by rw [List.getElem?_map, List.getElem?_map, hc]; rfl, ev⟩
  · obtain rfl : v = Value.ref a := rx
    obtain ⟨its, rv, pl, hz⟩ := I.list hq
    obtain ⟨o, ho, hc, n, hd⟩ := pl.isList
    have hst : StrsAre its (ls.map S) := strsAre_of (by rw [List.map_map]; exact rv)
    have e : its.toArray.size = ls.length := by rw [List.size_toArray, ← rv.length, List.length_map]
    exact wpAny_collect_seq a (.inl rfl) ho hc hd (fun h' k => h h' s.toks _ k (by simpa using hst)) (by rw [e, sizeLine_eq]; omega)
  · obtain rfl : v = Value.ref a := rx
    obtain ⟨its, rv, ⟨o, ho, hc, n, hd⟩, hz⟩ := I.tuple hq
    have hst : StrsAre its (ls.map S) := strsAre_of (by rw [List.map_map]; exact rv)
    have e : its.toArray.size = ls.length := by rw [List.size_toArray, ← rv.length, List.length_map]
    exact wpAny_collect_seq a (.inr rfl) ho hc hd (fun h' k => h h' s.toks _ k (by simpa using hst)) (by rw [e, sizeLine_eq]; omega)
theorem cr_srt (hcalm : X.calm = true) : CallR X (.builtin "sorted") (rSrt X.K) := by
  intro pins s σ H xs us Q I r q
  obtain ⟨x, ls, rfl, hs, h64, q⟩ := q
  obtain ⟨u, rfl, rx⟩ := vals1 r
  refine Calls.call_function_entry PyProof.Rows.kind_sorted PyProof.Rows.plain_sorted PyProof.Rows.entry_sorted (PyProof.Rows.args_sorted1 _) ?_
  unfold Builtin.«sorted»
  refine wpAny_bind (m := checkCount "sorted" 1 1 _) (wpAny_pure (wpAny_bind (collect_src (A := X.A.in1) I (I.ok.hd hcalm) rx hs h64 fun h' tk its hk hS => ?_)))
  have hal : its.length = ls.length := by rw [StrsAre.len_eq hS, List.length_map]
  have I1 : Inv X pins σ H { s with heap := h', toks := tk } := I.kept hk
  refine wpAny_bind (wpAny_newList ?_ (by rw [hal, sizeLine_eq]; omega))
  have hoL : (h'.push (seqObj "list" its.toArray 0)).get? h'.objs.size = some (seqObj "list" its.toArray 0) := Heap.get?_push_size _ rfl
  show wpAny _ _ _ _ _ { s with heap := h'.push (seqObj "list" its.toArray 0), toks := tk }
  refine wpAny_bind (wpAny_holding (wpAny_call_entry PyProof.Rows.slot_list_sort ⟨_, hoL, rfl⟩ PyProof.Rows.entry_list_sort (list_sort_treeK strKind_oneLt (s := { s with heap := h'.push (seqObj "list" its.toArray 0), toks := tk }) hoL hS.keysOf (fun v₁ v₂ rest e => keyKind_strs (by rw [← e]; exact hS)) (by rw [hal]; exact h64)
    fun st' hp hs => ⟨_, rfl, ?_⟩) (PyProof.Rows.args_list_sort _)))
  obtain ⟨ys, g1, g2, g3⟩ := sorted_out_str hS hp hs
  obtain ⟨e', he'⟩ := PyProof.Rows.sortedHeap_at (vs := its) (out := (arrOf st').map (·.2)) hoL
  have ey := srt_S g2 g3
  have hlen : (ys.map V.str).length ≤ sizeLine := by
    rw [ey, List.length_map, srt_len]
    exact Nat.le_trans (Nat.le_of_lt h64) (by decide)
  have q1 := q _ (I1.hok.fresh (Nat.le_refl h'.objs.size))
  rw [← ey] at q1
  refine wpAny_pure ⟨_, rfl, .ref h'.objs.size, upd H h'.objs.size (.lst (ys.map V.str)), I1.laid (t' := tk) (fun b o e => ?_) (Nat.le_refl _) (show ObjOk X.prog X.w _ _ _ (.lst (ys.map V.str)) from ⟨hlen, ((arrOf st').map (·.2)).toList, e', vals_of_strs g1, by rw [Array.toArray_toList]; exact he'⟩), rfl, q1⟩
  have hb : b < h'.objs.size := Heap.lt_size e
  rw [PyProof.Rows.sortedHeap_old (Nat.ne_of_lt hb) (by rw [size_push']; exact Nat.lt_succ_of_lt hb)]
  exact Heap.get?_push_of_some _ e
end
section
variable {K : PySem.W.Frag} {H : Hp} {Q : VK}
theorem s_srtS {l : List Nat} (h : l.length < 64) (k : ∀ p H2, H p = none → Ex [] H H2 → H2 p = some (.lst ((srt (l.map fun c => [c])).map vS)) → Q (.ref p) H2) : rSrt K [vS l] H Q := ⟨_, _, rfl, .inl ⟨l, rfl, rfl⟩, by rw [List.length_map]; exact h, s_new k⟩
theorem s_srtL {a : Addr} {ls : List (List Nat)} (hs : SqL K H a (ls.map vS)) (h : ls.length < 64) (k : ∀ p H2, H p = none → Ex [] H H2 → H2 p = some (.lst ((srt ls).map vS)) → Q (.ref p) H2) : rSrt K [.ref a] H Q := ⟨_, _, rfl, .inr ⟨a, rfl, .inl hs⟩, h, s_new k⟩
theorem s_srtT {a : Addr} {ls : List (List Nat)} (hs : SqT K H a (ls.map vS)) (h : ls.length < 64) (k : ∀ p H2, H p = none → Ex [] H H2 → H2 p = some (.lst ((srt ls).map vS)) → Q (.ref p) H2) : rSrt K [.ref a] H Q := ⟨_, _, rfl, .inr ⟨a, rfl, .inr hs⟩, h, s_new k⟩
end
end WB
namespace WB
open PySem PySem.Spec PyProof.Rows L2
section
variable {prog : Program} {w : World} {A : Around} {E : Value → Shared → Prop} {s : Shared}
abbrev tupIt (l : Addr) : Obj := { cls := .type "tuple_iterator", data := .fields #[.ref l, .int 0 0] }
abbrev enumO (it : Addr) : Obj := { cls := .type "enumerate", data := .fields #[.none, .bool false, .ref it, rawInt 0, .none, .none] }
theorem meets_enumT (l : Addr) (items : Array Value) (n : Nat) (dct : Option Addr) (sl : Array (Option Value)) :
    Meets (Builtin.«enumerate.__new__» ⟨[.type "enumerate", .ref l], []⟩) (fun _ R s => s.heap.get? l = some { cls := .type "tuple", dict := dct, data := .seq items n, slots := sl } ∧
      R (.ok (.ret (.ref (s.heap.push (tupIt l)).objs.size))) { s with heap := (s.heap.push (tupIt l)).push (enumO s.heap.objs.size) }) :=
  .of_wp fun prog w A R s h => by
    obtain ⟨hp, g, d, tk, os⟩ := s
    obtain ⟨hl, h⟩ := h
    have f1 := sub_enumerate
    have hL : Heap.IsTuple (Shared.heap ⟨hp, g, d, tk, os⟩) l items := ⟨_, hl, rfl, n, rfl⟩
    wp_walk using wpAny_loadPart' hl
    refine wpAny_stack_any fun st => wpAny_pure ?_
    split
    · rename_i c _ _ _ _ _
      cases (c == Value.type "enumerate")
      · wp_walk using wpAny_loadPart' hl, wpAny_pyIter_tuple hL
        exact ⟨_, rfl, h⟩
      · wp_walk using wpAny_loadPart' hl, wpAny_pyIter_tuple hL
        exact ⟨_, rfl, h⟩
    · wp_walk using wpAny_loadPart' hl, wpAny_pyIter_tuple hL
      exact ⟨_, rfl, h⟩
theorem call_enumT {l : Addr} {items : Array Value} {Q : Value → Shared → Prop} (hL : s.heap.IsTuple l items)
    (h : ∀ h', IsEnum h' (s.heap.objs.size + 1) s.heap.objs.size 0 .none → h'.IsTupleIter s.heap.objs.size l 0 → (∀ b o, s.heap.get? b = some o → h'.get? b = some o) → Q (.ref (s.heap.objs.size + 1)) { s with heap := h' }) :
    wpAny (model prog w) A (call (.type "enumerate") [.ref l]) Q E s := by
  obtain ⟨⟨c, dct, dt, sl⟩, hl, hc, n, hd⟩ := hL
  replace hc : c = .type "tuple" := hc
  replace hd : dt = .seq items n := hd
  subst hc hd
  refine callType_new F.called_enumerate (by decide) (F.typeCall_enumerate_1 _) (F.newCall_enumerate_1 _) (fun o => F.args_object_init_2 o _) F.entry_enumerate_new (meets_enumT l items n dct sl) ⟨hl, ?_⟩
  have hz : (s.heap.push (tupIt l)).objs.size = s.heap.objs.size + 1 := Heap.size_push ..
  show _ ∧ _
  rw [hz]
  have he : IsEnum ((s.heap.push (tupIt l)).push (enumO s.heap.objs.size)) (s.heap.objs.size + 1) s.heap.objs.size 0 .none := by
    have := Heap.get?_push_size (s.heap.push (tupIt l)) (o := enumO s.heap.objs.size) rfl
    rw [hz] at this
    exact this
  exact ⟨⟨_, he, rfl⟩, h _ he ⟨_, Heap.get?_push_of_some _ (Heap.get?_push_size _ rfl), rfl, rfl⟩ fun b o x => Heap.get?_push_of_some _ (Heap.get?_push_of_some _ x)⟩
theorem enum_endT {e it l : Addr} {i : Nat} {items : Array Value} {old : Value} {Q : Option Value → Shared → Prop} (hh : A.handled = none) (he : IsEnum s.heap e it i old) (hit : s.heap.IsTupleIter it l i) (hl : s.heap.IsTuple l items) (hx : items[i]? = none)
    (k : ∀ h', Heap.ExtBut it s.heap h' → Q none { s with heap := h' }) : wpAny (model prog w) A (pyNext (.ref e)) Q E s := by
  have T : s.TypeIs (.ref e) "enumerate" := ⟨_, he, rfl⟩
  unfold pyNext
  refine wpAny_bind (wpAny_attempt (wpAny_callSpecial?_slot (name := Str.ofString "__next__") T F.slot_enumerate_next (wpAny_call_entry F.slot_enumerate_next T F.entry_enumerate_next ?_ (F.args_enumerate_next_1 _))))
  show wpAny _ _ (field (.ref e) 2 >>= _) _ _ _
  refine wpAny_bind (wpAny_field he rfl (x := .ref it) rfl (wpAny_bind (wpAny_nextOf_tuple_end hh hit hl hx fun h' x x1 x2 => ?_)))
  obtain ⟨o, ho, hc⟩ := x2
  exact wpAny_bind (wpAny_isInstance (T := "StopIteration") (b := true) ⟨o, ho, hc⟩ isSubtype_stop (wpAny_pure (k _ x1)))
end
def IteT (K : PySem.W.Frag) (a : Addr) : It :=
  ⟨fun i H => ∃ (xs : List V) (x : V), SqT K H a xs ∧ xs[i]? = some x, fun i H v H' => ∃ T x, v = .ref T ∧ H T = none ∧ H' = upd H T (.tup [.int (i : Nat), x]) ∧ ∀ xs, SqT K H a xs → xs[i]? = some x, fun i H => ∃ xs : List V, SqT K H a xs ∧ xs.length ≤ i⟩
theorem turn_enumT {P : Program} {w : World} {K : PySem.W.Frag} {elts : List Expr} {kk : Nat} {tpos : Pos} (a e it : Addr) :
    Turn P w K (.Tuple elts kk tpos) (IteT K a) [e, it] e (fun i h => (∃ old, IsEnum h e it ((i : Nat) : Int) old) ∧ h.IsTupleIter it a i ∧ e ≠ it ∧ a ≠ it ∧ e ≠ a) where
  mem := by simp
  obj := fun i h st b hb => by
    obtain ⟨⟨old, he⟩, ⟨o, ho, hc, hd⟩, _⟩ := st
    have e' : b = e ∨ b = it := by simpa using hb
    rcases e' with z | z
    · rw [z]; exact ⟨_, he, fun v q => nomatch q⟩
    · rw [z]; exact ⟨o, ho, fun v q => by rw [hd] at q; cases q⟩
  keep := fun i h h' st k => let ⟨⟨old, he⟩, hi, r⟩ := st; ⟨⟨old, k e (by simp) _ he⟩, hi.at fun o q => k it (by simp) o q, r⟩
  item := by
    intro X hP hw hK hc i pins s σ H E I hf st hg
    subst hP hw hK
    obtain ⟨⟨old, he⟩, hit, ne1, ne2, ne3⟩ := st
    obtain ⟨xs, x, hq, hx⟩ := hg
    obtain ⟨its, rv, p, hz⟩ := I.tuple hq
    obtain ⟨u, hu, ru⟩ := rv.get hx
    have hel : e < s.heap.objs.size := Heap.lt_size he
    have hil : it < s.heap.objs.size := by obtain ⟨_, q, _⟩ := hit; exact Heap.lt_size q
    have lt : i < its.toArray.size := by
      have := (List.getElem?_eq_some_iff.mp hu).1
      simpa using this
    refine wpAny_pyNext_enum_itemD (Draws.tuple (by simp [I.ok.hd hc]) it a ne2 its.toArray) he ⟨hit, p⟩ lt ne1 (by simp only [List.mem_cons, List.not_mem_nil, or_false, not_or]; exact ⟨ne1, ne3⟩) fun v h' tk hv ho hit' hT hsz hk => ?_
    have hv : its.toArray[i]? = some v := hv
    have ev : v = u := by
      have h2 : its.toArray[i]? = some u := by simpa using hu
      rw [h2] at hv
      exact (Option.some.inj hv).symm
    subst ev
    refine ⟨_, rfl, wpAny_letOwnedTupleGo_enum (s := { s with heap := h', toks := tk + 1 }) ho fun h'' he' sb => ?_⟩
    have hT2 : h''.get? s.heap.objs.size = some { cls := .type "tuple", data := .seq #[.int i tk, v] } := (sb.2 _ (Nat.ne_of_gt hel)).trans hT
    have new : ObjOk X.prog X.w (upd H s.heap.objs.size (.tup [.int (i : Nat), x])) h'' s.heap.objs.size (.tup [.int (i : Nat), x]) := ⟨by show 2 ≤ sizeLine; decide, [.int i tk, v], .cons ⟨_, rfl⟩ (.cons ru .nil), ⟨_, hT2, rfl, _, rfl⟩⟩
    have I1 : Inv X pins σ (upd H s.heap.objs.size (.tup [.int (i : Nat), x])) { s with heap := h'', toks := tk + 1 } :=
      I.turnedNew (ch := [e, it]) (fun b ob hb q => (sb.2 b (fun z => hb (by simp [z]))).trans (hk b ob (fun z => hb (by simp [z])) (fun z => hb (by simp [z])) q)) hf (Nat.le_refl _) new
    refine ⟨.ref s.heap.objs.size, _, I1, rfl, ⟨_, x, rfl, I.hok.fresh (Nat.le_refl _), rfl, fun ys hy => by rw [I.tuple_inj hy hq]; exact hx⟩, ⟨⟨v, ?_⟩, hit'.1.at fun o q => (sb.2 it (Ne.symm ne1)).trans q, ne1, ne2, ne3⟩, fun b hb => ?_⟩
    · have e1 : ((i + 1 : Nat) : Int) = (i : Int) + 1 := by omega
      rw [e1]; exact he'
    · have hb' : b < s.heap.objs.size := by
        have e' : b = e ∨ b = it := by simpa using hb
        rcases e' with z | z
        · rw [z]; exact hel
        · rw [z]; exact hil
      rw [upd_ne (Nat.ne_of_lt hb')]
      exact (hf b hb).1
  done := by
    intro X hP hw hK hc i pins s σ H E I hf st hg
    subst hP hw hK
    obtain ⟨⟨old, he⟩, hit, ne1, ne2, ne3⟩ := st
    obtain ⟨xs, hq, hx⟩ := hg
    obtain ⟨its, rv, p, hz⟩ := I.tuple hq
    obtain ⟨f0, f1, f2, f3, f4, f5⟩ := hf it (by simp)
    have hl := rv.length
    refine enum_endT (I.ok.hd hc) he hit p (by simp; omega) fun h' eb => ⟨rfl, I.turned (t' := s.toks) (fun b o hb q => eb b o hb q) f0 f1 f3 f4 f5⟩
  self := fun A i s Q E st h => let ⟨⟨_, he⟩, _⟩ := st; wpAny_pyIter_enum he h
def iEnumT (K : PySem.W.Frag) (ta : TA) : TI := fun σ H R => ta σ H fun vs H1 => ∃ a xs, vs = [.ref a] ∧ SqT K H1 a xs ∧ R (IteT K a) H1
theorem pi_enumT {X : Cx} {e : Expr} {ta : TA} {p pos tpos : Pos} {elts : List Expr} {kk : Nat} (hg : Gl X "enumerate") (hm : X.mg "enumerate" = none) (ha : PA X [e] ta) (hs : starEach [e] X.env = [(false, eval e X.env)] := by rfl) :
    PI X (.Tuple elts kk tpos) (.Call (.Name "enumerate" p) [e] [] pos) (iEnumT X.K ta) := by
  refine ⟨fun pins s σ H R I h => Call_ (ld_blt I hg hm boot_enumerate (PyProof.Rows.callWith_type1 (thn (ha.run pos pins s σ H _ I h) fun us s1 ⟨vs, H1, I1, r1, q1⟩ => ?_) hs rfl))⟩
  obtain ⟨a, xs, rfl, hq, q⟩ := q1
  obtain ⟨u, rfl, ru⟩ := vals1 r1
  cases ru
  obtain ⟨its, rv, p', hz⟩ := I1.tuple hq
  have lt : a < s1.heap.objs.size := by obtain ⟨o, ho, _⟩ := p'; exact Heap.lt_size ho
  refine call_enumT p' fun h' he hit hk => wpAny_pyIter_enum he ?_
  have I2 : Inv X pins σ H1 { s1 with heap := h' } := I1.kept (t' := s1.toks) hk
  refine ⟨s1.heap.objs.size + 1, [s1.heap.objs.size + 1, s1.heap.objs.size], _, _, H1, rfl, I2, turn_enumT a (s1.heap.objs.size + 1) s1.heap.objs.size, ⟨⟨.none, he⟩, hit, Nat.succ_ne_self _, Nat.ne_of_lt lt, Nat.ne_of_gt (Nat.lt_succ_of_lt lt)⟩, fun b hb => ?_, q⟩
  have e' : b = s1.heap.objs.size + 1 ∨ b = s1.heap.objs.size := by simpa using hb
  have hle : s1.heap.objs.size ≤ b := by
    rcases e' with z | z
    · rw [z]; exact Nat.le_succ _
    · rw [z]; exact Nat.le_refl _
  exact I1.fpOk hle (I1.hok.fresh hle)
theorem walk_enumT {K : PySem.W.Frag} {a : Addr} {xs : List V} : Walk (IteT K a) xs.length (fun H => SqT K H a xs) (YPair (fun i => some (.int (i : Nat))) (fun i => xs[i]?)) := by
  refine ⟨fun i _ hi q => ⟨xs, xs[i], q, by simp [hi]⟩, fun _ q => ⟨xs, q, Nat.le_refl _⟩, fun i H v H' _ q y => ?_⟩
  obtain ⟨T, x, h1, h2, h3, h4⟩ := y
  exact ⟨T, .int (i : Nat), x, h1, h2, h3, rfl, h4 xs q⟩
theorem s_enumT {K : PySem.W.Frag} {ta : TA} {σ : L2.St} {H : Hp} {R : It → Hp → Prop} (k : ta σ H fun vs H1 => ∃ a xs, vs = [.ref a] ∧ SqT K H1 a xs ∧ R (IteT K a) H1) : iEnumT K ta σ H R := k
theorem s_enumTA {K : PySem.W.Frag} {a : Addr} {xs : List V} {H : Hp} {C : Addr → Prop} (h : SqT K H a xs) (k : C a) : ∃ b ys, [V.ref a] = [V.ref b] ∧ SqT K H b ys ∧ C b := ⟨a, xs, rfl, h, k⟩
end WB
namespace WB
open PySem PySem.Spec PyProof.Rows L2
def sgn (s : List Nat) : List Nat := (srt (s.map fun c => [c])).flatten
def prs (s : List Nat) : List (List Nat) := s.flatMap fun a => s.map fun b => [a, b]
def goodS (s : List Nat) : Prop := isWord s LET = true ∧ s.length ≤ 4 ∧ s.Nodup
def goodP (s : List Nat) (ps : List (List Nat)) : Prop := ps.Nodup ∧ ∀ p ∈ ps, p.length = 2 ∧ ∀ c ∈ p, c ∈ s
def prevC (w : List Nat) (i : Nat) : Nat := w.getD ((i + (w.length - 1)) % w.length) 0
def closesB (w : List Nat) (ps : List (List Nat)) : Bool := (List.range w.length).all fun i => decide ([prevC w i, w.getD i 0] ∈ ps)
theorem closes_iff {w : List Nat} {ps : List (List Nat)} : closesB w ps = true ↔ ∀ i, i < w.length → [prevC w i, w.getD i 0] ∈ ps := by
  unfold closesB
  rw [List.all_eq_true]
  constructor
  · intro h i hi
    exact of_decide_eq_true (h i (List.mem_range.mpr hi))
  · intro h i hi
    exact decide_eq_true (h i (List.mem_range.mp hi))
theorem mem_prs {s p : List Nat} : p ∈ prs s ↔ ∃ a ∈ s, ∃ b ∈ s, p = [a, b] := by
  unfold prs
  rw [List.mem_flatMap]
  constructor
  · rintro ⟨a, ha, h⟩
    obtain ⟨b, hb, e⟩ := List.mem_map.mp h
    exact ⟨a, ha, b, hb, e.symm⟩
  · rintro ⟨a, ha, b, hb, e⟩
    exact ⟨a, ha, List.mem_map.mpr ⟨b, hb, e.symm⟩⟩
theorem prs_len (s : List Nat) : (prs s).length = s.length * s.length := by
  unfold prs
  rw [List.length_flatMap]
  simp only [List.length_map]
  have : ∀ (l : List Nat) (n : Nat), (l.map fun _ => n).sum = l.length * n := by
    intro l n
    induction l with
    | nil => simp
    | cons x r ih => rw [List.map_cons, List.sum_cons, ih, List.length_cons, Nat.succ_mul, Nat.add_comm]
  exact this s _
theorem prs_nodup {s : List Nat} (h : s.Nodup) : (prs s).Nodup := by
  have key : ∀ l : List Nat, l.Nodup → (l.flatMap fun a => s.map fun b => [a, b]).Nodup := by
    intro l
    induction l with
    | nil => simp
    | cons a l ih =>
      intro hl
      obtain ⟨h1, h2⟩ := List.nodup_cons.mp hl
      rw [List.flatMap_cons, List.nodup_append]
      refine ⟨?_, ih h2, ?_⟩
      · exact List.Pairwise.map _ (fun x y hxy e => hxy (by simpa using e)) h
      · intro x hx y hy e
        obtain ⟨b, _, rfl⟩ := List.mem_map.mp hx
        obtain ⟨a', ha', hy⟩ := List.mem_flatMap.mp hy
        obtain ⟨b', _, rfl⟩ := List.mem_map.mp hy
        have : a = a' := by simpa using (List.cons.inj e).1
        exact h1 (this ▸ ha')
  exact key s h
theorem goodP_prs {s : List Nat} (h : s.Nodup) : goodP s (prs s) := ⟨prs_nodup h, fun p hp => by
  obtain ⟨a, ha, b, hb, rfl⟩ := mem_prs.mp hp
  refine ⟨rfl, fun c hc => ?_⟩
  simp only [List.mem_cons, List.not_mem_nil, or_false] at hc
  rcases hc with rfl | rfl <;> assumption⟩
theorem goodP_sub {s : List Nat} {ps qs : List (List Nat)} (h : goodP s ps) (hs : qs.Sublist ps) : goodP s qs := ⟨h.1.sublist hs, fun p hp => h.2 p (hs.subset hp)⟩
theorem goodP_perm {s : List Nat} {ps qs : List (List Nat)} (h : goodP s ps) (hs : qs.Perm ps) : goodP s qs := ⟨hs.nodup_iff.mpr h.1, fun p hp => h.2 p (hs.mem_iff.mp hp)⟩
structure KindK (K : PySem.W.Frag) : Prop where
  cl : Cls K (He.ga K "Kind")
  na1 : NoAttr K (He.ga K "Kind") "letters"
  na2 : NoAttr K (He.ga K "Kind") "allowed"
  ty : ∀ (H : Hp) (a dx : Addr) (fs : List (Str × V)), H a = some (.ins (He.ga K "Kind") dx fs) → TyX K H (.ref a) (.ref (He.ga K "Kind"))
  me : PySem.W.kitOne K (.ref (He.ga K "Kind")) (.ref (He.ga K "Kind")) = some true
  no : ∀ n ∈ KD, PySem.W.kitOne K (.type n) (.ref (He.ga K "Kind")) = some false
  nr : PySem.W.kitOne K (.ref (He.ga K "Kind")) (.ref (He.ga K "Ring")) = some false
  rn : PySem.W.kitOne K (.ref (He.ga K "Ring")) (.ref (He.ga K "Kind")) = some false
def KindAt (K : PySem.W.Frag) (H : Hp) (a : Addr) (l : List Nat) (ps : List (List Nat)) : Prop := ∃ dx t, H a = some (.ins (He.ga K "Kind") dx [("letters", vS l), ("allowed", .ref t)]) ∧ SqT K H t (ps.map vS)
section
variable {K : PySem.W.Frag} {H H' : Hp} {a p : Addr} {l : List Nat} {ps : List (List Nat)} {Q : VK} {E : XK}
theorem KindAt.ex0 (e : Ex [] H H') (h : KindAt K H a l ps) : KindAt K H' a l ps := by
  obtain ⟨dx, t, h1, h2⟩ := h
  exact ⟨dx, t, e a _ (by simp) h1, e.sqT (by simp) h2⟩
theorem sqT_pool {t : Addr} {xs : List V} (hp : PoolAt H p) (e : Ex [p] H H') (h : SqT K H t xs) : SqT K H' t xs := by
  obtain ⟨x, y, z, hp⟩ := hp
  rcases h with (h | ⟨o, h⟩) | h
  · exact e.sqT (by simp only [List.mem_singleton]; intro w; rw [w, hp] at h; cases h) (.inl (.inl h))
  · exact e.sqT (by simp only [List.mem_singleton]; intro w; rw [w, hp] at h; cases h) (.inl (.inr ⟨o, h⟩))
  · exact .inr h
theorem KindAt.exP (hp : PoolAt H p) (e : Ex [p] H H') (h : KindAt K H a l ps) : KindAt K H' a l ps := by
  obtain ⟨dx, t, h1, h2⟩ := h
  refine ⟨dx, t, e a _ ?_ h1, sqT_pool hp e h2⟩
  obtain ⟨x, y, z, hp⟩ := hp
  simp only [List.mem_singleton]
  intro w
  rw [w, hp] at h1
  cases h1
def sp_check_signs (K : PySem.W.Frag) : Sp := fun vs H Q _ => ∃ s : List Nat, vs = [vS s] ∧ goodS s ∧ ∀ H', Ex [] H H' → Q .non H'
def sp_check_pairs (K : PySem.W.Frag) : Sp := fun vs H Q _ => ∃ (s : List Nat) (t : Addr) (ps : List (List Nat)), vs = [vS s, .ref t] ∧ SqT K H t (ps.map vS) ∧ goodP s ps ∧ ps.length < 64 ∧ ∀ H', Ex [] H H' → Q .non H'
def PairsV (K : PySem.W.Frag) (H : Hp) (v : V) (s : List Nat) (ps : List (List Nat)) : Prop := (v = .non ∧ ps = prs s) ∨ ∃ t, v = .ref t ∧ SqT K H t (ps.map vS) ∧ goodP s ps ∧ ps.length < 64
def sp_Kind_init (K : PySem.W.Frag) : Sp := fun vs H Q _ => ∃ (x dx : Addr) (s : List Nat) (v : V), vs = [.ref x, vS s, v] ∧ goodS s ∧ H x = some (.ins (He.ga K "Kind") dx []) ∧ ∃ ps, PairsV K H v s ps ∧ ∀ H', Ex [x] H H' → KindAt K H' x (sgn s) (srt ps) → Q .non H'
def sp_Kind_closes (K : PySem.W.Frag) : Sp := fun vs H Q _ => ∃ (a : Addr) (w : List Nat), vs = [.ref a, vS w] ∧ ∃ l ps, KindAt K H a l ps ∧ w.length ≤ 600 ∧ ∀ H', Ex [] H H' → Q (.bl (closesB w ps)) H'
def NoRingV (K : PySem.W.Frag) (H : Hp) (v : V) : Prop := (∃ n, Kd K H v n) ∨ ∃ a l ps, v = .ref a ∧ KindAt K H a l ps
def sp_Kind_contains (K : PySem.W.Frag) : Sp := fun vs H Q _ => ∃ (a : Addr) (v : V), vs = [.ref a, v] ∧ ∃ l ps, KindAt K H a l ps ∧ ((∃ b w, v = .ref b ∧ RingAt K H b w ∧ w.length ≤ 600 ∧ ∀ H', Ex [] H H' → Q (.bl (closesB w ps)) H') ∨ (NoRingV K H v ∧ Q (.bl false) H))
theorem u_check_signs {s : List Nat} (h : goodS s) (k : ∀ H', Ex [] H H' → Q .non H') : sp_check_signs K ([vS s] ++ []) H Q E := ⟨_, rfl, h, k⟩
theorem u_check_pairs {s : List Nat} {t : Addr} (ht : SqT K H t (ps.map vS)) (h : goodP s ps) (hl : ps.length < 64) (k : ∀ H', Ex [] H H' → Q .non H') : sp_check_pairs K ([vS s, .ref t] ++ []) H Q E := ⟨_, _, _, rfl, ht, h, hl, k⟩
theorem u_makeKind {s : List Nat} {v : V} {us dvs : List V} (eu : us ++ dvs = [vS s, v]) (hs : goodS s) (hp : PairsV K H v s ps) (k : ∀ x H', H x = none → Ex [] H H' → KindAt K H' x (sgn s) (srt ps) → Q (.ref x) H') : MakeG (He.ga K "Kind") (sp_Kind_init K) dvs E us H Q := by
  intro x dx hx hdx ne
  rw [eu]
  have e0 : Ex [] H (upd (upd H dx (.own x)) x (.ins (He.ga K "Kind") dx [])) := fun b o _ hb => by rw [upd_ne (ne_of_none hb hx), upd_ne (ne_of_none hb hdx)]; exact hb
  have hp2 : PairsV K (upd (upd H dx (.own x)) x (.ins (He.ga K "Kind") dx [])) v s ps := by
    rcases hp with h | ⟨t, h1, h2, h3⟩
    · exact .inl h
    · exact .inr ⟨t, h1, e0.sqT (by simp) h2, h3⟩
  refine ⟨x, dx, s, v, rfl, hs, upd_same, ps, hp2, fun H' e h => ⟨rfl, k x H' hx ?_ h⟩⟩
  intro b o _ hb
  exact e b o (by simpa using ne_of_none hb hx) (e0 b o (by simp) hb)
theorem u_inKindR {a b : Addr} {w : List Nat} {neg : Bool} (h : KindAt K H a l ps) (hr : RingAt K H b w) (hw : w.length ≤ 600) (k : ∀ H', Ex [] H H' → Q (.bl (if neg then !closesB w ps else closesB w ps)) H') : rInO (He.ga K "Kind") neg (sp_Kind_contains K) E (.ref b) (.ref a) H Q := by
  obtain ⟨dx, t, h1, h2⟩ := id h
  exact ⟨a, dx, _, rfl, h1, _, _, rfl, l, ps, h, .inl ⟨b, w, rfl, hr, hw, fun H' e => ⟨_, rfl, k H' e⟩⟩⟩
theorem u_methKind {m : Str} {sp : Sp} {dvs : List V} {tr : TA} {σ : St} (h : KindAt K H a l ps) (hm : (m == ("letters" : Str)) = false) (hm2 : (m == ("allowed" : Str)) = false) (k : tr σ H fun vs H2 => sp (.ref a :: (vs ++ dvs)) H2 Q E) : MethG (He.ga K "Kind") m sp dvs E tr σ (.ref a) H Q := by
  obtain ⟨dx, t, h, _⟩ := h
  refine ⟨a, dx, _, rfl, h, ?_, k⟩
  simp only [List.lookup, hm, hm2]
theorem u_fldAllowed (F : KindK K) (h : KindAt K H a l ps) (k : ∀ t, SqT K H t (ps.map vS) → Q (.ref t) H) : FldG K "allowed" (.ref a) H Q := by
  obtain ⟨dx, t, h, ht⟩ := h
  exact ⟨a, _, dx, _, _, rfl, h, F.cl, F.na2, rfl, k t ht⟩
theorem u_fldLetters (F : KindK K) (h : KindAt K H a l ps) (k : Q (vS l) H) : FldG K "letters" (.ref a) H Q := by
  obtain ⟨dx, t, h, ht⟩ := h
  exact ⟨a, _, dx, _, _, rfl, h, F.cl, F.na1, rfl, k⟩
theorem u_isiKR (F : KindK K) (h : KindAt K H a l ps) (k : Q (.bl false) H) : rIsi K [.ref a, .ref (He.ga K "Ring")] H Q := by
  obtain ⟨dx, t, h, _⟩ := h
  exact ⟨_, _, _, _, _, rfl, .own _, F.ty _ _ _ _ h, F.nr, k⟩
theorem u_isiNR (F : RingK K) {v : V} {n : String} (h : Kd K H v n) (k : Q (.bl false) H) : rIsi K [v, .ref (He.ga K "Ring")] H Q := ⟨_, _, _, _, _, rfl, .own _, h.1, F.no n h.2, k⟩
def rTupOf (K : PySem.W.Frag) : List V → Hp → VK → Prop := fun xs H Q => ∃ p ys, xs = [.ref p] ∧ ((SqL K H p ys ∧ ∀ l, H l = none → Q (.ref l) (upd H l (.tup ys))) ∨ (SqT K H p ys ∧ Q (.ref p) H))
theorem s_tupOf {b : Addr} {xs : List V} (h : SqL K H b xs) (k : ∀ q H2, H q = none → Ex [] H H2 → H2 q = some (.tup xs) → Q (.ref q) H2) : rTupOf K [.ref b] H Q := ⟨b, xs, rfl, .inl ⟨h, s_new k⟩⟩
theorem s_notN {v : V} (k : Q (.bl (!decide (v = .non))) H) : rNotN1 v .non H Q := ⟨rfl, k⟩
theorem s_isN {v : V} (k : Q (.bl (decide (v = .non))) H) : rIsN1 v .non H Q := ⟨rfl, k⟩
end
end WB
namespace WB
open PySem PySem.Spec PyProof.Rows L2
def Lc2W (J : It) (g : TG) (tt : TT) (wi1 : TI) (g1 : TG) (tt1 : TT) (te : TE) (vs vs1 : List Nat) (σ : St) (H1 : Hp) (Q : VK) : Prop := ∀ D, H1 D = none → ∃ W : Nat → Nat → Hp → Prop, (∃ m, W 0 m (upd H1 D (.lst []))) ∧ ∀ i m H, W i m H →
  (J.stop i H ∧ Q (.ref D) H) ∨ (J.go i H ∧ ∃ Nx : Hp → Prop, (∀ H', Nx H' → ∃ m', m' < m ∧ W (i + 1) m' H') ∧ ∀ x H', J.yld i H x H' → g x (wipe σ vs) H' fun σ2 H2 => wipe σ2 vs = wipe σ vs ∧ tt σ2 H2 fun b H3 =>
    if b = true then wi1 σ2 H3 fun J1 H4 => ∃ W1 : Nat → Nat → Hp → Prop, (∃ m, W1 0 m H4) ∧ ∀ j k H, W1 j k H →
      (J1.stop j H ∧ Nx H) ∨ (J1.go j H ∧ ∃ Nx1 : Hp → Prop, (∀ H', Nx1 H' → ∃ k', k' < k ∧ W1 (j + 1) k' H') ∧ ∀ x H', J1.yld j H x H' → g1 x (wipe σ2 vs1) H' fun σ3 H5 => wipe σ3 vs1 = wipe σ2 vs1 ∧ tt1 σ3 H5 fun b H6 =>
        if b = true then te σ3 H6 fun y H7 => ∃ acc, H7 D = some (.lst acc) ∧ acc.length < sizeLine ∧ Nx1 (upd H7 D (.lst (acc ++ [y]))) else Nx1 H6)
    else Nx H3)
theorem s_lc2 {wi wi1 : TI} {g g1 : TG} {tt tt1 : TT} {te : TE} {vs vs1 : List Nat} {σ : St} {H : Hp} {Q : VK} (k : wi σ H fun J H1 => Lc2W J g tt wi1 g1 tt1 te vs vs1 σ H1 Q) : tLc2 wi g tt wi1 g1 tt1 te vs vs1 σ H Q := k
def vals2 (val : Nat → Nat → V) (l m : List Nat) : List V := l.flatMap fun c => m.map fun d => val c d
theorem vals2_snoc {val : Nat → Nat → V} {l m : List Nat} {i c : Nat} (h : l[i]? = some c) : vals2 val (l.take (i + 1)) m = vals2 val (l.take i) m ++ m.map (val c) := by
  unfold vals2
  rw [List.take_add_one, h]
  simp
theorem vals2_len {val : Nat → Nat → V} {m : List Nat} : ∀ l : List Nat, (vals2 val l m).length = l.length * m.length
  | [] => by simp [vals2]
  | c :: l => by
    have := vals2_len (val := val) (m := m) l
    unfold vals2 at this ⊢
    rw [List.flatMap_cons, List.length_append, this, List.length_map, List.length_cons, Nat.succ_mul, Nat.add_comm]
theorem lc2_SS {l m : List Nat} {j1 j2 k : Nat} {te : TE} {σ : St} {H : Hp} {Q : VK} (ne : j1 ≠ j2) (hk : ∀ c, ((wipe σ [j1, j2]).set j1 (some (vS [c])))[k]? = some (some (vS m))) (hl : l.length ≤ 600) (hm : m.length ≤ 600) (val : Nat → Nat → V)
    (h : ∀ (c d : Nat) (H1 : Hp) (C : VK), c ∈ l → d ∈ m → Ex [] H H1 → (∀ H2, Ex [] H1 H2 → C (val c d) H2) → te ((wipe ((wipe σ [j1, j2]).set j1 (some (vS [c]))) [j2]).set j2 (some (vS [d]))) H1 C)
    (q : ∀ D H', H D = none → Ex [] H H' → H' D = some (.lst (vals2 val l m)) → Q (.ref D) H') : Lc2W (Its (S l)) (gName j1) tYes (iStr (tVar k)) (gName j2) tYes te [j1, j2] [j2] σ H Q := by
  intro D hD
  have hs : ∀ z : List Nat, (S z).cps.size = z.length := fun z => by simp [S]
  have w1 := walk_str (z := S l)
  have w2 := walk_str (z := S m)
  rw [hs] at w1 w2
  refine ⟨fun i r H' => r = l.length - i ∧ i ≤ l.length ∧ Ex [] H H' ∧ H' D = some (.lst (vals2 val (l.take i) m)), ⟨_, rfl, Nat.zero_le _, Ex.new hD, by rw [upd_same]; rfl⟩, ?_⟩
  rintro i r H1 ⟨rfl, hi, e1, h1⟩
  by_cases hlt : i < l.length
  rotate_left
  · have : i = l.length := by omega
    subst this
    rw [List.take_length] at h1
    exact .inl ⟨w1.stops _ trivial, q D H1 hD e1 h1⟩
  refine .inr ⟨w1.goes _ _ hlt trivial, fun H' => Ex [] H H' ∧ H' D = some (.lst (vals2 val (l.take (i + 1)) m)), fun H' hn => ⟨_, by omega, rfl, by omega, hn.1, hn.2⟩, fun x H2 hy => ?_⟩
  obtain ⟨rfl, c, hc, rfl⟩ := w1.yields _ _ _ _ hlt trivial hy
  have hc : l[i]? = some c := by simpa [S] using hc
  refine ⟨?_, ?_⟩
  · show (((((σ.set j2 none).set j1 none).set j1 (some (vS [c]))).set j2 none).set j1 none) = (σ.set j2 none).set j1 none
    rw [List.set_set, List.set_comm (l := σ.set j2 none) _ _ ne, List.set_set, List.set_set]
  refine s_yes (s_T rfl ?_)
  refine ⟨vS m, hk c, S m, rfl, ?_⟩
  refine ⟨fun j r H' => r = m.length - j ∧ j ≤ m.length ∧ Ex [] H H' ∧ H' D = some (.lst (vals2 val (l.take i) m ++ (m.take j).map (val c))), ⟨_, rfl, Nat.zero_le _, e1, by simpa using h1⟩, ?_⟩
  rintro j r H3 ⟨rfl, hj, e3, h3⟩
  by_cases hlt2 : j < m.length
  rotate_left
  · have : j = m.length := by omega
    subst this
    rw [List.take_length, ← vals2_snoc hc] at h3
    exact .inl ⟨w2.stops _ trivial, e3, h3⟩
  refine .inr ⟨w2.goes _ _ hlt2 trivial, fun H' => Ex [] H H' ∧ H' D = some (.lst (vals2 val (l.take i) m ++ (m.take (j + 1)).map (val c))), fun H' hn => ⟨_, by omega, rfl, by omega, hn.1, hn.2⟩, fun x H4 hy => ?_⟩
  obtain ⟨rfl, d, hd, rfl⟩ := w2.yields _ _ _ _ hlt2 trivial hy
  have hd : m[j]? = some d := by simpa [S] using hd
  refine ⟨wipe1 _ _ _, s_yes (s_T rfl ?_)⟩
  refine h c d _ _ (List.mem_of_getElem? hc) (List.mem_of_getElem? hd) e3 fun H5 e5 => ⟨_, e5 D _ (by simp) h3, ?_, ?_, ?_⟩
  · rw [List.length_append, vals2_len, List.length_map, List.length_take, List.length_take]
    have a1 : min i l.length * m.length ≤ 600 * 600 := Nat.mul_le_mul (by omega) hm
    exact Nat.lt_of_le_of_lt (show _ ≤ 361000 by omega) (by decide)
  · intro b o _ hb
    rw [upd_ne (ne_of_none hb hD)]
    exact e5 b o (by simp) (e3 b o (by simp) hb)
  · rw [upd_same, List.take_add_one, hd, List.map_append, ← List.append_assoc]
    rfl
def sp_law_every (K : PySem.W.Frag) : Sp := fun vs H Q _ => ∃ s : List Nat, vs = [vS s] ∧ s.length ≤ 26 ∧ ∀ p H', H p = none → Ex [] H H' → H' p = some (.lst ((prs s).map vS)) → Q (.ref p) H'
section
variable {K : PySem.W.Frag} {H : Hp} {Q : VK} {E : XK}
theorem u_every {s : List Nat} (hl : s.length ≤ 26) (k : ∀ p H', H p = none → Ex [] H H' → H' p = some (.lst ((prs s).map vS)) → Q (.ref p) H') : sp_law_every K ([vS s] ++ []) H Q E := ⟨_, rfl, hl, k⟩
theorem lc_subL {a b : Addr} {ls : List (List Nat)} {j : Nat} {tt : TT} {σ : St} (hq : H b = some (.lst (ls.map vS))) (hb : b ≠ a) (hj : j < σ.length) (hn : ls.length ≤ 100000) (hp : PoolAt H a)
    (h : ∀ (x : List Nat) (H1 : Hp) (R : Bool → Hp → Prop), x ∈ ls → Ex [a] H H1 → PoolAt H1 a → (∀ c H2, Ex [a] H1 H2 → PoolAt H2 a → R c H2) → tt ((wipe σ [j]).set j (some (vS x))) H1 R)
    (k : ∀ D H' (ms : List (List Nat)), H D = none → Ex [a] H H' → PoolAt H' a → ms.Sublist ls → H' D = some (.lst (ms.map vS)) → Q (.ref D) H') : LcW (Itl K b) (gName j) tt (tVar j) [j] σ H Q := by
  refine lc_run (walk_list (xs := ls.map vS)) (by rw [List.length_map]; exact hn) [a] (fun H1 => PoolAt H1 a) (fun i acc _ => ∃ ms : List (List Nat), acc = ms.map vS ∧ ms.Sublist (ls.take i)) (fun z hz => by rw [List.mem_singleton.mp hz]; exact hp.there) hp ⟨[], rfl, by simp⟩ (fun H1 D o nD r => r.upd nD) (fun _ _ _ _ _ _ h => h) (fun H1 e => SqL.of (e b _ (by simpa using hb) hq)) ?_ ?_
  · rintro i acc x H1 H2 C1 C0 hi e r ⟨ms, rfl, hms⟩ ⟨rfl, hx⟩ k1 k0
    rw [List.length_map] at hi
    rw [List.getElem?_map, List.getElem?_eq_getElem hi] at hx
    cases hx
    refine ⟨wipe1 _ _ _, ?_⟩
    refine h ls[i] _ _ (List.getElem_mem hi) e r fun c H3 e3 r3 => ?_
    have hsub : (ls.take i).Sublist (ls.take (i + 1)) := by rw [List.take_add_one]; exact List.sublist_append_left _ _
    refine s_2 (fun _ => ?_) (fun _ => ?_)
    · refine ⟨vS ls[i], ?_, k1 _ _ e3 r3 ⟨ms ++ [ls[i]], by simp, ?_⟩⟩
      · show ((σ.set j none).set j (some (vS ls[i])))[j]? = _
        rw [List.set_set, List.getElem?_set_self hj]
      · rw [List.take_add_one, List.getElem?_eq_getElem hi]
        exact hms.append (List.Sublist.refl _)
    · exact k0 _ e3 r3 ⟨ms, rfl, hms.trans hsub⟩
  · rintro D H' ys hD e r hd _ ⟨ms, rfl, hms⟩
    rw [List.length_map, List.take_length] at hms
    exact k D H' ms hD e r hms hd
theorem s_slA {a : Addr} {xs : List V} {lo hi : Option Int} (h : SqT K H a xs) (k : ∀ q H2, Ex [] H H2 → SqT K H2 q (cutV xs lo hi) → Q (.ref q) H2) : rSlA K (.ref a) lo hi H Q := by
  refine ⟨a, xs, rfl, h, fun hw => ?_, fun _ p hp => k p _ (Ex.new hp) (SqT.of upd_same)⟩
  have e : cutV xs lo hi = xs := by
    unfold cutV
    rw [hw.1, hw.2]
    simp
  have := k a H Ex.rfl
  rw [e] at this
  exact this h
theorem cutV_to {xs : List V} {n : Int} (h0 : 0 ≤ n) : cutV xs none (some n) = xs.take n.toNat := by
  unfold cutV
  have e : HT.sIx xs.length xs.length (some n) = min n.toNat xs.length := by
    show (if n < 0 then (n + (xs.length : Int)).toNat else min n.toNat xs.length) = _
    rw [if_neg (by omega)]
  have e2 : HT.sIx xs.length 0 none = 0 := rfl
  rw [e, e2]
  rcases Nat.le_total n.toNat xs.length with h | h
  · rw [Nat.min_eq_left h]; simp
  · rw [Nat.min_eq_right h, List.take_of_length_le h]; simp
theorem s_eqLInil {a b : Addr} {l : List Int} (h1 : SqL K H a (l.map V.int)) (h2 : SqL K H b []) (k : Q (.bl l.isEmpty) H) : rEqD K (.ref a) (.ref b) H Q := by
  refine ⟨_, _, .lst h1 (dp_all (fun i => .int i) l), .lst h2 .nil, shaped_ints l, by decide +kernel, ?_⟩
  rw [eqv_nil]
  cases l <;> exact k
theorem s_intB {c : Bool} (k : Q (.int (if c = true then 1 else 0)) H) : rIntI [.bl c] H Q := .inr ⟨c, rfl, k⟩
theorem u_is_wordF {l s : List Nat} (hl : l.length ≤ 10000) (k : ∀ H', Ex [] H H' → Q (.bl (isWord l s)) H') : sp_is_word K ([vS l, vS s] ++ []) H Q E := ⟨_, _, rfl, .inl ⟨l, rfl, hl, k⟩⟩
end
theorem erase_perm {α : Type} : ∀ {l : List α} {i : Nat} (h : i < l.length), (l[i] :: l.eraseIdx i).Perm l
  | x :: l, 0, _ => List.Perm.refl _
  | x :: l, i + 1, h => by
    have h2 : i < l.length := by simpa using h
    show (l[i] :: x :: l.eraseIdx i).Perm (x :: l)
    exact (List.Perm.swap _ _ _).trans (List.Perm.cons x (erase_perm h2))
theorem flat_len1 {s : List Nat} : (srt (s.map fun c => [c])).flatten.length = s.length := by
  rw [(srt_perm (s.map fun c => [c])).flatten.length_eq, flat1]
theorem closes_filter {w : List Nat} {ps : List (List Nat)} : (((List.range w.length).filter fun i => !decide ([prevC w i, w.getD i 0] ∈ ps)).map fun (i : Nat) => (0 : Int) + i).isEmpty = closesB w ps := by
  rw [List.isEmpty_map, Bool.eq_iff_iff, List.isEmpty_iff, List.filter_eq_nil_iff, closes_iff]
  constructor
  · intro h i hi
    have := h i (List.mem_range.mpr hi)
    simpa using this
  · intro h i hi
    have := h i (List.mem_range.mp hi)
    simpa using this
theorem at_here {w : List Nat} {i : Nat} (h : i < w.length) : atI w ((0 : Int) + i) = some (w.getD i 0) := by
  refine atI_of (by omega) ?_
  rw [show ((0 : Int) + (i : Int)).toNat = i by omega, List.getElem?_eq_getElem h, List.getD_eq_getElem?_getD, List.getElem?_eq_getElem h]
  rfl
theorem at_prev {w : List Nat} {i : Nat} (h : i < w.length) : atI w ((0 : Int) + i - 1) = some (prevC w i) := by
  unfold prevC
  rcases Nat.eq_zero_or_pos i with rfl | hp
  · unfold atI ixN
    rw [if_neg (by omega), if_pos (by omega)]
    have e : (0 + (w.length - 1)) % w.length = w.length - 1 := by rw [Nat.zero_add, Nat.mod_eq_of_lt (by omega)]
    rw [e, List.getD_eq_getElem?_getD, List.getElem?_eq_getElem (by omega)]
    show w[((w.length : Int) + (0 + ((0 : Nat) : Int) - 1)).toNat]? = _
    rw [show ((w.length : Int) + (0 + ((0 : Nat) : Int) - 1)).toNat = w.length - 1 by omega, List.getElem?_eq_getElem (by omega)]
    rfl
  · have e : (i + (w.length - 1)) % w.length = i - 1 := by rw [show i + (w.length - 1) = i - 1 + w.length by omega, Nat.add_mod_right, Nat.mod_eq_of_lt (by omega)]
    rw [e]
    refine atI_of (by omega) ?_
    rw [show ((0 : Int) + (i : Int) - 1).toNat = i - 1 by omega, List.getElem?_eq_getElem (by omega), List.getD_eq_getElem?_getD, List.getElem?_eq_getElem (by omega)]
    rfl
end WB
namespace WB
open PySem PySem.Spec PyProof.Rows L2
local macro_rules | `(tactic| walk_at "lit") => `(tactic| first | exact lit_abc | exact lit_empty)
local macro_rules | `(tactic| walk_at "nm") => `(tactic| focus first | exact List.not_mem_nil | (simp only [List.mem_singleton]; first | assumption | (exact Ne.symm (by assumption)) | (intro hz; subst hz; simp_all; done)))
local macro_rules | `(tactic| walk_at "hp") => `(tactic| first | assumption | (apply Ex.get0 (by assumption); walk_at "hp") | (apply Ex.get (by assumption); (walk_at "nm"); (walk_at "hp")))
local macro_rules | `(tactic| walk_at "sq") => `(tactic| first | assumption | (apply SqL.of; walk_at "hp") | (apply Ex.sqL (by assumption); (walk_at "nm"); (walk_at "sq")))
local macro_rules | `(tactic| walk_at "sqt") => `(tactic| first | assumption | (apply SqT.of; walk_at "hp") | (apply Ex.sqT (by assumption); (walk_at "nm"); (walk_at "sqt")))
local macro_rules | `(tactic| walk_at "sz") => `(tactic| focus ((with_reducible refine Nat.le_trans (m := 100000) ?_ (by decide)); first | omega | (simp; done) | (simp; omega)))
local macro_rules | `(tactic| walk_at "mul") => `(tactic| first | exact Or.inr ⟨by omega, by omega⟩ | exact Or.inl ⟨by omega, by omega⟩)
local macro_rules | `(tactic| walk_at "pool") => `(tactic| first | assumption | (apply PoolAt.ex (by assumption); (walk_at "nm"); (walk_at "pool")))
local macro_rules | `(tactic| walk_at "ring") => `(tactic| first | assumption | (apply RingAt.ex (by assumption); (walk_at "nm"); (walk_at "ring")))
local macro_rules | `(tactic| walk_at "st") => `(tactic| first
  | with_reducible refine s_seq ?_
  | with_reducible refine s_asg ?_
  | with_reducible refine s_gName ?_
  | with_reducible refine s_ret ?_
  | with_reducible refine s_ifS ?_
  | with_reducible refine s_next ?_
  | with_reducible refine s_op ?_
  | ((with_reducible apply s_var); exact rfl)
  | ((with_reducible apply s_cS); (walk_at "lit"))
  | with_reducible refine s_c ?_
  | with_reducible refine s_cb ?_
  | with_reducible refine s_cons ?_
  | with_reducible refine s_nil ?_
  | with_reducible refine s_un ?_
  | with_reducible refine s_call ?_
  | with_reducible refine s_test ?_
  | with_reducible refine s_tB ?_
  | with_reducible refine s_blQ ?_
  | with_reducible refine s_not ?_
  | with_reducible refine s_and ?_
  | with_reducible refine s_or ?_
  | with_reducible refine s_andV ?_
  | with_reducible refine s_orV ?_
  | with_reducible refine s_notV ?_
  | with_reducible refine s_ifE ?_
  | with_reducible refine s_chain ?_
  | ((with_reducible refine s_T ?_ ?_); (with_reducible exact rfl))
  | with_reducible refine s_nT ?_
  | with_reducible refine s_nF ?_
  | ((with_reducible refine s_F ?_ ?_); (with_reducible exact rfl))
  | ((with_reducible refine s_T ?_ ?_); assumption)
  | ((with_reducible refine s_F ?_ ?_); assumption)
  | ((with_reducible refine s_nB ?_ ?_); assumption)
  | ((with_reducible refine s_nA ?_ ?_); assumption)
  | ((with_reducible refine s_Td ?_ ?_); omega)
  | ((with_reducible refine s_Fd ?_ ?_); omega)
  | ((with_reducible refine s_nTd ?_ ?_); omega)
  | ((with_reducible refine s_nFd ?_ ?_); omega)
  | with_reducible refine s_sfld ?_
  | with_reducible refine s_addI ?_
  | with_reducible refine s_subI ?_
  | ((with_reducible refine s_mulI ?_ ?_); (walk_at "mul"))
  | ((with_reducible refine s_divI ?_ ?_); exact ⟨by omega, by omega⟩)
  | ((with_reducible refine s_modI ?_ ?_); omega)
  | ((with_reducible refine s_powI ?_ ?_); exact ⟨by decide, by decide, by decide⟩)
  | with_reducible refine s_ltI ?_
  | with_reducible refine s_leI ?_
  | with_reducible refine s_gtI ?_
  | with_reducible refine s_geI ?_
  | with_reducible refine s_negI ?_
  | with_reducible refine s_absI ?_
  | with_reducible refine s_intI ?_
  | with_reducible refine s_min2 ?_
  | with_reducible refine s_max2 ?_
  | with_reducible refine s_eqI ?_
  | with_reducible refine s_neI ?_
  | with_reducible refine s_eqS ?_
  | with_reducible refine s_neS ?_
  | with_reducible refine s_inSg ?_
  | with_reducible refine s_notInSg ?_
  | ((with_reducible refine s_addS ?_ ?_); (walk_at "sz"))
  | ((with_reducible refine s_lenS ?_ ?_); (walk_at "sz"))
  | ((with_reducible apply s_lenL); (walk_at "sq"))
  | ((with_reducible apply s_lenT); (walk_at "sqt"))
  | ((with_reducible apply s_ixL); (walk_at "sq"); exact rfl)
  | ((with_reducible apply s_ixT); (walk_at "sqt"); exact rfl)
  | with_reducible refine s_gSub ?_
  | ((with_reducible apply s_setL); (walk_at "hp"); (exact rfl); (intro _ _ _))
  | ((with_reducible refine s_alloc ?_ ?_); (walk_at "sz"); (intro _ _ _ _ _))
  | ((with_reducible refine s_divmod ?_ ?_); (exact ⟨by omega, PyProof.noPylong_small (by omega)⟩); (intro _ _ _ _ _))
  | ((with_reducible apply s_gTup); (walk_at "sqt"); (exact rfl))
  | ((with_reducible apply s_gLst); (walk_at "sq"); (exact rfl))
  | with_reducible refine s_gCons ?_
  | with_reducible refine s_gNil ?_
  | with_reducible refine s_lc ?_
  | ((with_reducible apply s_cat); (walk_at "hp"); (walk_at "hp"); (walk_at "sz"); (intro _ _ _ _ _))
  | ((with_reducible apply s_slL); (walk_at "sq"); (intro _ _ _ _ _))
  | with_reducible refine s_for ?_
  | with_reducible refine s_rng1 ?_
  | ((with_reducible refine s_rng1i ?_ ?_); (constructor <;> omega))
  | with_reducible refine s_rng2 ?_
  | ((with_reducible refine s_rng2i ?_ ?_); (refine ⟨?_, ?_, ?_, ?_⟩ <;> omega))
  | with_reducible refine s_iStr ?_
  | with_reducible refine s_iStrS ?_
  | with_reducible refine s_iList ?_
  | ((with_reducible apply s_iListA); (walk_at "sq"))
  | with_reducible refine s_iTup ?_
  | ((with_reducible apply s_iTupA); (walk_at "sqt"))
  | with_reducible refine s_sl ?_
  | with_reducible refine s_noPart ?_
  | with_reducible refine s_part ?_
  | with_reducible refine s_int1 ?_
  | ((with_reducible refine s_slS ?_ ?_); (walk_at "sz"))
  | with_reducible refine s_tup ?_
  | with_reducible refine s_lst ?_
  | with_reducible refine s_par ?_
  | with_reducible refine s_pair ?_
  | with_reducible refine s_M1 ?_
  | with_reducible refine s_isStr ?_
  | with_reducible refine s_revS ?_
  | ((with_reducible refine s_revS1 ?_ ?_); (walk_at "sz"))
  | with_reducible refine s_fldE ?_
  | with_reducible refine s_propE ?_
  | ((with_reducible refine u_draw ?_ ?_ ?_ ?_); omega; omega; (walk_at "pool"); (intro _ _ _ _ _ _))
  | ((with_reducible refine u_pool ?_); (intro _ _ _ _ _))
  | with_reducible refine u_is_integer ?_
  | with_reducible refine s_isiII ?_
  | with_reducible refine s_isiIB ?_
  | with_reducible refine s_isiSS ?_
  | ((with_reducible apply u_fldRing); assumption; (walk_at "ring"))
  | ((with_reducible apply u_textP); (walk_at "ring"))
  | ((with_reducible apply u_strRing); (walk_at "ring"))
  | ((with_reducible apply u_eqRing); (walk_at "ring"); (walk_at "ring"))
  | ((with_reducible apply u_isiRing); assumption; (walk_at "ring"))
  | ((with_reducible refine u_is_word ?_ ?_); omega; (intro _ _))
  | ((with_reducible refine u_turnings ?_ ?_); omega; (intro _ _ _ _ _))
  | with_reducible refine s_makeE ?_
  | with_reducible refine s_methE ?_)
local macro_rules | `(tactic| walk_at "go") => `(tactic| repeat (walk_at "st"))
local macro_rules | `(tactic| walk_at "exs") => `(tactic| first | exact Ex.rfl | assumption | (apply Ex.snoc (by assumption); walk_at "exs") | (apply Ex.snocW (by assumption); walk_at "exs"))
local macro_rules | `(tactic| walk_at "kind") => `(tactic| first | assumption | (apply KindAt.ex0 (by assumption); (walk_at "kind")) | (apply KindAt.exP (by assumption) (by assumption); (walk_at "kind")))
local macro_rules | `(tactic| walk_at "st") => `(tactic| first
  | with_reducible refine s_lenSet ?_
  | with_reducible refine s_drop ?_
  | with_reducible refine s_bm ?_
  | with_reducible refine s_notN ?_
  | with_reducible refine s_isN ?_
  | ((with_reducible apply s_tyL); (walk_at "hp"))
  | with_reducible refine s_enumT ?_
  | ((with_reducible apply s_enumTA); (walk_at "sqt"))
  | with_reducible refine s_lc2 ?_)
def t_check_signs (K : PySem.W.Frag) : TS :=
  (tIfS (tOr (tNot (tB (tCall (sp_is_word K) [(vS LET)] E0 (tCons (tVar 0) tNil)))) (tOr (tTest (tOp rGtI (tCB (rLenV K) (tCons (tVar 0) tNil)) (tC (.int 4)))) (tTest (tOp rLtI (tLenSetS K (tVar 0)) (tCB (rLenV K) (tCons (tVar 0) tNil)))))) tNever tNext)
def t_check_pairs (K : PySem.W.Frag) : TS :=
  (tSeq (tIfS (tNot (tB (tCB (rIsi K) (tCons (tVar 1) (tCons (tC (.ty "tuple")) tNil))))) tNever tNext)
  (tFor (iEnumT K (tCons (tVar 1) tNil)) (gTup K 2 (gCons (gName 2) (gCons (gName 3) gNil))) (tIfS (tOr (tNot (tB (tCall (sp_is_word K) [] E0 (tCons (tVar 3) (tCons (tVar 0) tNil))))) (tOr (tTest (tOp rNe (tCB (rLenV K) (tCons (tVar 3) tNil)) (tC (.int 2)))) (tTest (tOp (rIn K false) (tVar 3) (tSl (rSlA K) (tVar 1) tNoPart (tPart (tVar 2))))))) tNever tNext)))
def t_Kind_init (K : PySem.W.Frag) : TS :=
  (tSeq (tDrop (tCall (sp_check_signs K) [] E0 (tCons (tVar 1) tNil)))
  (tSeq (tIfS (tTest (tOp rNotN1 (tVar 2) (tC .non))) (tDrop (tCall (sp_check_pairs K) [] E0 (tCons (tVar 1) (tCons (tVar 2) tNil)))) tNext)
  (tSeq (sFld K (tVar 0) (tM1 (rJoin K) (tC (.str "")) (tCB (rSrt K) (tCons (tVar 1) tNil))) "letters")
  (tSeq (tIfS (tTest (tOp rIsN1 (tVar 2) (tC .non))) (tAsg (tLc2 (iStr (tVar 1)) (gName 3) tYes (iStr (tVar 1)) (gName 4) tYes (tOp rAddS (tVar 3) (tVar 4)) [3, 4] [4]) (gName 2)) tNext)
  (sFld K (tVar 0) (tCB (rTupOf K) (tCons (tCB (rSrt K) (tCons (tVar 2) tNil)) tNil)) "allowed")))))
def t_Kind_closes (K : PySem.W.Frag) : TS :=
  (tRet (tOp (rEqD K) (tLc (iRng1 (tCons (tCB (rLenV K) (tCons (tVar 1) tNil)) tNil)) (gName 2) (tTest (tOp (rIn K true) (tOp rAddS (tOp rIxS (tVar 1) (tOp rSubI (tVar 2) (tC (.int 1)))) (tOp rIxS (tVar 1) (tVar 2))) (tFld K (tVar 0) "allowed"))) (tVar 2) [2]) (tLst tNil)))
def t_Kind_contains (K : PySem.W.Frag) : TS :=
  (tRet (tAndV (tCB (rIsi K) (tCons (tVar 1) (tCons (tC (.ref (He.ga K "Ring"))) tNil))) (tMeth (He.ga K "Kind") "closes" (sp_Kind_closes K) [] E0 (tVar 0) (tCons (tProp (He.ga K "Ring") (sp_Ring_text K) [] E0 (tVar 1)) tNil))))
def t_law_every (K : PySem.W.Frag) : TS :=
  (tSeq (tAsg (tLst tNil) (gName 1))
  (tSeq (tFor (iStr (tVar 0)) (gName 2) (tAsg (tOp rCat (tVar 1) (tLc (iStr (tVar 0)) (gName 3) tYes (tOp rAddS (tVar 2) (tVar 3)) [3])) (gName 1)))
  (tRet (tVar 1))))
section
variable {K : PySem.W.Frag} {vs : List V} {H : Hp} {Q : VK} {E : XK}
theorem pure_check_signs (h : sp_check_signs K vs H Q E) : t_check_signs K (E1 Q) (start ["signs"] vs) H := by
  obtain ⟨s, rfl, ⟨hw, h4, hn⟩, k⟩ := h
  have hl := isWord_len hw
  show t_check_signs K (E1 Q) [some (vS s)] H
  unfold t_check_signs
  walk_at "go"
  rename_i H1 e1
  refine s_setNS (by omega) ?_
  have en : ndc s.reverse = s.length := by rw [← List.length_reverse]; exact (ndc_full _).mpr ((List.reverse_perm s).nodup_iff.mpr hn)
  rw [en]
  walk_at "go"
  exact k _ e1
theorem pure_check_pairs (h : sp_check_pairs K vs H Q E) : t_check_pairs K (E1 Q) (start ["signs", "pairs", "index", "pair"] vs) H := by
  obtain ⟨s, t, ps, rfl, ht, ⟨hn, hg⟩, h64, k⟩ := h
  show t_check_pairs K (E1 Q) [some (vS s), some (.ref t), none, none] H
  unfold t_check_pairs
  walk_at "go"
  refine s_isiK (Kd.tup ht) (b := true) (by decide +kernel) ?_
  walk_at "go"
  refine for_run walk_enumT (fun i σ H1 => ∃ x2 x3, σ = [some (vS s), some (.ref t), x2, x3] ∧ Ex [] H H1) ⟨_, _, rfl, Ex.rfl⟩ (fun i σ H1 _ ⟨_, _, _, e⟩ => e.sqT (by simp) ht) ?_ ?_
  · rintro i x σ H1 H2 hi ⟨x2, x3, rfl, e1⟩ ⟨T, y, z, rfl, hT, rfl, hy, hz⟩
    rw [List.length_map] at hi
    have hz : (ps.map vS)[i]? = some z := hz
    rw [List.getElem?_map, List.getElem?_eq_getElem hi] at hz
    cases hz
    cases hy
    have hm : ps[i] ∈ ps := List.getElem_mem hi
    have hp := hg _ hm
    have e2 : Ex [] H1 (upd H1 T (.tup [.int (i : Nat), vS ps[i]])) := Ex.new hT
    have h2 : (upd H1 T (.tup [.int (i : Nat), vS ps[i]])) T = some (.tup [.int (i : Nat), vS ps[i]]) := upd_same
    revert e2 h2
    generalize upd H1 T (.tup [.int (i : Nat), vS ps[i]]) = H3
    intro e2 h2
    have hw : isWord ps[i] s = true := isWord_mk (by omega) (by omega) hp.2
    walk_at "go"
    refine u_is_wordF (by omega) fun H4 e4 => ?_
    rw [hw]
    walk_at "go"
    refine s_slA (xs := ps.map vS) (by walk_at "sqt") fun q H5 e5 hs5 => ?_
    walk_at "go"
    have hc : cutV (ps.map vS) none (some (i : Int)) = (ps.take i).map vS := by rw [cutV_to (by omega)]; simp [List.map_take]
    rw [hc] at hs5
    refine s_inT hs5 ?_
    have hni : ps[i] ∉ ps.take i := by
      intro z
      obtain ⟨j, hj, e⟩ := List.mem_take_iff_getElem.mp z
      exact absurd (List.getElem_inj hn |>.mp e) (by omega)
    rw [decide_eq_false hni]
    walk_at "go"
    exact ⟨_, _, rfl, (((e1.trans e2).trans e4).trans e5)⟩
  · rintro σ H1 ⟨x2, x3, rfl, e1⟩
    exact k _ e1
theorem pure_law_every (h : sp_law_every K vs H Q E) : t_law_every K (E1 Q) (start ["_law_abc", "_law_found", "_law_near", "_law_far"] vs) H := by
  obtain ⟨s, rfl, hl, k⟩ := h
  show t_law_every K (E1 Q) [some (vS s), none, none, none] H
  unfold t_law_every
  walk_at "go"
  rename_i p1 H1 n1 e1 h1
  have w := walk_str (z := S s)
  have hs : (S s).cps.size = s.length := by simp [S]
  rw [hs] at w
  refine for_run w (fun i σ H2 => ∃ x2 p, σ = [some (vS s), some (.ref p), x2, none] ∧ H p = none ∧ Ex [] H H2 ∧ H2 p = some (.lst (((s.take i).flatMap fun a => s.map fun b => [a, b]).map vS))) ⟨_, p1, rfl, n1, e1, by simpa using h1⟩ (fun _ _ _ _ _ => trivial) ?_ ?_
  · rintro i x σ H2 H3 hi ⟨x2, p, rfl, hp, e2, h2⟩ ⟨rfl, c, hc, ev⟩
    have ev : x = vS [c] := ev
    subst ev
    have hc : s[i]? = some c := by simpa [S] using hc
    walk_at "go"
    refine lc_mapS (by omega) (fun _ => true) (fun d => vS [c, d]) (fun d H4 C1 C0 hd e4 k1 k0 => ?_) (fun D H4 hD e4 hd => ?_)
    · refine s_yes ?_
      walk_at "go"
      exact k1 _ Ex.rfl rfl
    walk_at "go"
    have hd2 : H4 D = some (.lst (s.map fun d => vS [c, d])) := by rw [hd, show s.filter (fun _ => true) = s from List.filter_eq_self.mpr fun _ _ => rfl]
    have hlen : (((s.take i).flatMap fun a => s.map fun b => [a, b]).map vS).length ≤ 676 := by
      rw [List.length_map, List.length_flatMap]
      simp only [List.length_map]
      have : ∀ (l : List Nat) (n : Nat), (l.map fun _ => n).sum = l.length * n := by
        intro l n
        induction l with
        | nil => simp
        | cons x r ih => rw [List.map_cons, List.sum_cons, ih, List.length_cons, Nat.succ_mul, Nat.add_comm]
      rw [this, List.length_take]
      exact Nat.mul_le_mul (show _ ≤ 26 by omega) hl
    refine s_cat (e4.get0 h2) hd2 (Nat.le_trans (m := 100000) (by have : (s.map fun d => vS [c, d]).length = s.length := List.length_map ..; omega) (by decide)) fun q H5 nq e5 h5 => ?_
    walk_at "go"
    refine ⟨_, q, rfl, (e2.trans e4).free nq, (e2.trans e4).trans e5, ?_⟩
    rw [h5, List.take_add_one, hc]
    simp
  · rintro σ H2 ⟨x2, p, rfl, hp, e2, h2⟩
    walk_at "go"
    rw [List.take_length] at h2
    exact k p _ hp e2 h2
variable (FR : RingK K) (F : KindK K)
include F
theorem pure_Kind_init (h : sp_Kind_init K vs H Q E) : t_Kind_init K (E1 Q) (start ["self", "signs", "pairs", "one", "other"] vs) H := by
  obtain ⟨x, dx, s, v, rfl, hs, hx, ps, hp, k⟩ := h
  have h4 := hs.2.1
  show t_Kind_init K (E1 Q) [some (.ref x), some (vS s), some v, none, none] H
  unfold t_Kind_init
  walk_at "go"
  refine u_check_signs hs fun H1 e1 => ?_
  walk_at "go"
  have fin : ∀ (H5 : Hp) (q : Addr), Ex [x] H H5 → H5 x = some (.ins (He.ga K "Kind") dx [("letters", vS (sgn s))]) → H5 q = some (.tup ((srt ps).map vS)) → SetG K "allowed" (.ref q) (.ref x) H5 (fun H' => Q .non H') := by
    intro H5 q e5 h5 hq
    refine ⟨x, _, dx, _, rfl, h5, F.cl, F.na2, by simp, ?_⟩
    have hqx : q ≠ x := fun z => by rw [z, h5] at hq; cases hq
    refine k _ (e5.trans (Ex.put (by simp))) ⟨dx, q, ?_, SqT.of (by rw [upd_ne hqx]; exact hq)⟩
    rw [upd_same]
    rfl
  rcases hp with ⟨rfl, rfl⟩ | ⟨t, rfl, ht, hg, h64⟩
  · refine s_F (by simp) ?_
    walk_at "go"
    refine s_srtS (by omega) fun p2 H2 n2 e2 h2 => ?_
    walk_at "go"
    refine s_join0 (ls := srt (s.map fun c => [c])) (SqL.of h2) (by rw [flat_len1]; omega) ?_
    walk_at "go"
    refine ⟨x, _, dx, _, rfl, by walk_at "hp", F.cl, F.na1, by simp, ?_⟩
    have e3 : Ex [x] H2 (upd H2 x (.ins (He.ga K "Kind") dx (putF "letters" (vS (sgn s)) []))) := Ex.put (by simp)
    have h3 : (upd H2 x (.ins (He.ga K "Kind") dx (putF "letters" (vS (sgn s)) []))) x = some (.ins (He.ga K "Kind") dx [("letters", vS (sgn s))]) := by rw [upd_same]; rfl
    show (tSeq _ _) _ _ (upd H2 x (.ins (He.ga K "Kind") dx (putF "letters" (vS (sgn s)) [])))
    revert e3 h3
    generalize upd H2 x (.ins (He.ga K "Kind") dx (putF "letters" (vS (sgn s)) [])) = H3
    intro e3 h3
    walk_at "go"
    refine s_T (by simp) ?_
    walk_at "go"
    refine lc2_SS (l := s) (m := s) (by decide) (fun c => rfl) (by omega) (by omega) (fun c d => vS [c, d]) (fun c d H4 C hc hd e4 kk => ?_) fun D H4 hD e4 hd => ?_
    · walk_at "go"
      exact kk _ Ex.rfl
    walk_at "go"
    have hv : vals2 (fun c d => vS [c, d]) s s = (prs s).map vS := by
      unfold vals2 prs
      rw [List.map_flatMap]
      congr 1
      funext c
      rw [List.map_map]
      rfl
    rw [hv] at hd
    refine s_srtL (SqL.of hd) (by rw [prs_len]; have := Nat.mul_le_mul h4 h4; omega) fun p5 H5 n5 e5 h5 => ?_
    walk_at "go"
    refine s_tupOf (SqL.of h5) fun q H6 n6 e6 h6 => ?_
    walk_at "go"
    have h6x : H6 x = some (.ins (He.ga K "Kind") dx [("letters", vS (sgn s))]) := by walk_at "hp"
    have eH6 : Ex [x] H H6 := by walk_at "exs"
    exact fin H6 q eH6 h6x h6
  · refine s_T (by simp) ?_
    walk_at "go"
    refine u_check_pairs (e1.sqT (by simp) ht) hg h64 fun H2 e2 => ?_
    walk_at "go"
    refine s_srtS (by omega) fun p3 H3 n3 e3 h3 => ?_
    walk_at "go"
    refine s_join0 (ls := srt (s.map fun c => [c])) (SqL.of h3) (by rw [flat_len1]; omega) ?_
    walk_at "go"
    refine ⟨x, _, dx, _, rfl, by walk_at "hp", F.cl, F.na1, by simp, ?_⟩
    have e4 : Ex [x] H3 (upd H3 x (.ins (He.ga K "Kind") dx (putF "letters" (vS (sgn s)) []))) := Ex.put (by simp)
    have h4 : (upd H3 x (.ins (He.ga K "Kind") dx (putF "letters" (vS (sgn s)) []))) x = some (.ins (He.ga K "Kind") dx [("letters", vS (sgn s))]) := by rw [upd_same]; rfl
    have ht4 : SqT K (upd H3 x (.ins (He.ga K "Kind") dx (putF "letters" (vS (sgn s)) []))) t (ps.map vS) := by
      have h0 : SqT K H3 t (ps.map vS) := by walk_at "sqt"
      have hx3 : H3 x = some (.ins (He.ga K "Kind") dx []) := by walk_at "hp"
      rcases h0 with (h | ⟨o, h⟩) | h
      · exact e4.sqT (by simp only [List.mem_singleton]; intro w; rw [w, hx3] at h; cases h) (.inl (.inl h))
      · exact e4.sqT (by simp only [List.mem_singleton]; intro w; rw [w, hx3] at h; cases h) (.inl (.inr ⟨o, h⟩))
      · exact .inr h
    show (tSeq _ _) _ _ (upd H3 x (.ins (He.ga K "Kind") dx (putF "letters" (vS (sgn s)) [])))
    revert e4 h4 ht4
    generalize upd H3 x (.ins (He.ga K "Kind") dx (putF "letters" (vS (sgn s)) [])) = H4
    intro e4 h4 ht4
    walk_at "go"
    refine s_F (by simp) ?_
    walk_at "go"
    refine s_srtT ht4 h64 fun p5 H5 n5 e5 h5 => ?_
    walk_at "go"
    refine s_tupOf (SqL.of h5) fun q H6 n6 e6 h6 => ?_
    walk_at "go"
    have h6x : H6 x = some (.ins (He.ga K "Kind") dx [("letters", vS (sgn s))]) := by walk_at "hp"
    have eH6 : Ex [x] H H6 := by walk_at "exs"
    exact fin H6 q eH6 h6x h6
theorem pure_Kind_closes (h : sp_Kind_closes K vs H Q E) : t_Kind_closes K (E1 Q) (start ["self", "text", "at"] vs) H := by
  obtain ⟨a, w, rfl, l, ps, hk, hw, k⟩ := h
  show t_Kind_closes K (E1 Q) [some (.ref a), some (vS w), none] H
  unfold t_Kind_closes
  walk_at "go"
  refine lc_fmR (by omega) (fun i => !decide ([prevC w i, w.getD i 0] ∈ ps)) (fun i => .int ((0 : Int) + i)) (fun i H1 C1 C0 hi e1 k1 k0 => ?_) (fun D H1 hD e1 hd => ?_)
  · have hi : i < w.length := by omega
    walk_at "go"
    refine s_ixS (c := prevC w i) (by walk_at "sz") (at_prev hi) ?_
    walk_at "go"
    refine s_ixS (c := w.getD i 0) (by walk_at "sz") (at_here hi) ?_
    walk_at "go"
    refine u_fldAllowed F (l := l) (ps := ps) (by walk_at "kind") fun t ht => ?_
    walk_at "go"
    refine s_notInT ht ?_
    walk_at "go"
    refine s_2 (fun hb => ?_) (fun hb => ?_)
    · walk_at "go"
      exact k1 _ Ex.rfl hb
    · exact k0 _ Ex.rfl hb
  walk_at "go"
  rename_i p2 H2 n2 e2 h2
  refine s_eqLInil (l := ((List.range w.length).filter fun i => !decide ([prevC w i, w.getD i 0] ∈ ps)).map fun (i : Nat) => (0 : Int) + i) (by rw [List.map_map]; exact SqL.of (e2.get0 hd)) (SqL.of h2) ?_
  rw [closes_filter]
  exact k _ (e1.trans e2)
include FR
theorem pure_Kind_contains (h : sp_Kind_contains K vs H Q E) : t_Kind_contains K (E1 Q) (start ["self", "value"] vs) H := by
  obtain ⟨a, v, rfl, l, ps, hk, h⟩ := h
  show t_Kind_contains K (E1 Q) [some (.ref a), some v] H
  unfold t_Kind_contains
  walk_at "go"
  rcases h with ⟨b, w, rfl, hr, hw, k⟩ | ⟨hn | ⟨b, l', ps', rfl, hb⟩, k⟩
  · walk_at "go"
    refine u_methKind hk (by decide +kernel) (by decide +kernel) ?_
    walk_at "go"
    exact ⟨_, _, rfl, l, ps, hk, hw, k⟩
  · obtain ⟨n, hn⟩ := hn
    refine u_isiNR FR hn ?_
    walk_at "go"
    exact k
  · refine u_isiKR F hb ?_
    walk_at "go"
    exact k
end
end WB
namespace WB
open PySem PySem.Spec PyProof.Rows L2
section
variable {X : Cx}
def tDcT (wi : TI) (g : TG) (tt : TT) (tk tv : TE) (vs : List Nat) : TE := fun σ H Q => wi σ H fun J H1 => ∀ D, H1 D = none → ∃ W : Nat → Nat → Hp → Prop, (∃ m, W 0 m (upd H1 D (.dT []))) ∧ ∀ i m H, W i m H →
  (J.stop i H ∧ Q (.ref D) H) ∨ (J.go i H ∧ ∃ Nx : Hp → Prop, (∀ H', Nx H' → ∃ m', m' < m ∧ W (i + 1) m' H') ∧ ∀ x H', J.yld i H x H' → g x (wipe σ vs) H' fun σ2 H2 => wipe σ2 vs = wipe σ vs ∧ tt σ2 H2 fun c H3 =>
    if c = true then tk σ2 H3 fun y H4 => tv σ2 H4 fun z H5 => ∃ kvs k b, y = .ref b ∧ H5 b = some (.tup (k.map kV)) ∧ H5 D = some (.dT kvs) ∧ kvs.length < sizeLine ∧ Nx (upd H5 D (.dT (putK kvs k z))) else Nx H3)
end
end WB
namespace WB
open PySem PySem.Spec PyProof.Rows L2
def MakeKG (C : Addr) (n m : Nat) (sp : Sp) (gV : List V → List V → List V) (E : XK) (vs zs : List V) (H : Hp) (Q : VK) : Prop := vs.length = n ∧ zs.length = m ∧ ∀ x dx, H x = none → H dx = none → dx ≠ x → sp (gV (.ref x :: vs) zs) (upd (upd H dx (.own x)) x (.ins C dx [])) (fun v H3 => v = .non ∧ Q (.ref x) H3) E
theorem s_makeK {C : Addr} {n m : Nat} {sp : Sp} {gV : List V → List V → List V} {E : XK} {t tk : TA} {σ : L2.St} {H : Hp} {Q : VK} (k : t σ H fun vs H1 => tk σ H1 fun zs H2 => MakeKG C n m sp gV E vs zs H2 Q) : tMakeK C n m sp gV E t tk σ H Q := k
end WB
namespace WB
open PySem PySem.Spec PyProof.Rows L2 ClX
section
variable {X : Cx} {CX : CXT} {k n : Nat} {C p g : Addr} {fd : FuncData} {ps ks : List Str} {mc : Value} {sp : Sp} {E : XK} {o e : Expr} {es : List Expr} {f m x : Str} {pos apos q1 : Pos} {ta : TE} {t tk : TA} {pl : Sem Bool} {kws : List Keyword} {gS : List Value → List Value → List Value} {gV : List V → List V → List V} {dvs : List V} {ds : List Value}
def tCMethK (C : Addr) (n : Nat) (sp : Sp) (gV : List V → List V → List V) (E : XK) (ta : TE) (tk : TA) : TE := fun σ H Q => ta σ H fun x H1 => x = .ref C ∧ tk σ H1 fun zs H2 => zs.length = n ∧ sp (gV [.ref C] zs) H2 Q E
end
end WB
namespace WB
open PySem PySem.Spec PyProof.Rows L2
def dT1 (ps : List (List Nat)) : PyData := .tuple (ps.map dS)
theorem lay_T1 {ps : List (List Nat)} (h : ∀ p ∈ ps, plain p) : PyData.canLay0 (dT1 ps) = true := by
  unfold dT1
  rw [PyData.canLay0]
  exact canLay_strs h
theorem dep_T1 (ps : List (List Nat)) : PyData.depth (dT1 ps) ≤ 1 := by
  unfold dT1
  rw [PyData.depth, depth_strs]
  omega
theorem shaped_T1 {ps : List (List Nat)} (h : ∀ p ∈ ps, plain p) : SeqAt.shaped (dT1 ps) = true := by
  unfold SeqAt.shaped
  refine Bool.and_eq_true_iff.mpr ⟨lay_T1 h, decide_eq_true ?_⟩
  have := dep_T1 ps
  omega
theorem eqv_T1 (ps qs : List (List Nat)) : PyData.eqv (dT1 ps) (dT1 qs) = decide (ps = qs) := by
  unfold dT1
  rw [PyData.eqv, eqv_strs]
section
variable {K : PySem.W.Frag} {H H' : Hp} {a b p : Addr} {l l' : List Nat} {ps ps' : List (List Nat)} {Q : VK} {E : XK}
theorem dp_T1 {t : Addr} (h : SqT K H t (ps.map vS)) : Dp K H (.ref t) (dT1 ps) := .tup h (dp_strs ps)
theorem s_eqT1 {t u : Addr} (h1 : SqT K H t (ps.map vS)) (h2 : SqT K H u (ps'.map vS)) (p1 : ∀ p ∈ ps, plain p) (p2 : ∀ p ∈ ps', plain p) (k : Q (.bl (decide (ps = ps'))) H) : rEqD K (.ref t) (.ref u) H Q := by
  refine ⟨_, _, dp_T1 h1, dp_T1 h2, shaped_T1 p1, shaped_T1 p2, ?_⟩
  rw [eqv_T1]
  exact k
def KindAtP (K : PySem.W.Frag) (H : Hp) (a : Addr) (l : List Nat) (ps : List (List Nat)) : Prop := KindAt K H a l ps ∧ plain l ∧ ∀ p ∈ ps, plain p
def sp_Kind_signs (K : PySem.W.Frag) : Sp := fun vs H Q _ => ∃ a : Addr, vs = [.ref a] ∧ ∃ l ps, KindAt K H a l ps ∧ Q (vS l) H
def sp_Kind_row (K : PySem.W.Frag) : Sp := fun vs H Q _ => ∃ a : Addr, vs = [.ref a] ∧ ∃ l ps, KindAt K H a l ps ∧ ∀ q t H', H q = none → Ex [] H H' → H' q = some (.tup [vS l, .ref t]) → SqT K H' t (ps.map vS) → Q (.ref q) H'
def RowAt (K : PySem.W.Frag) (H : Hp) (q : Addr) (l : List Nat) (ps : List (List Nat)) : Prop := ∃ t, SqT K H q [vS l, .ref t] ∧ SqT K H t (ps.map vS)
theorem RowAt.ex0 (e : Ex [] H H') (h : RowAt K H a l ps) : RowAt K H' a l ps := by
  obtain ⟨t, h1, h2⟩ := h
  exact ⟨t, e.sqT (by simp) h1, e.sqT (by simp) h2⟩
def sp_Kind_eq (K : PySem.W.Frag) : Sp := fun vs H Q _ => ∃ (a : Addr) (v : V), vs = [.ref a, v] ∧ ∃ l ps, KindAtP K H a l ps ∧ ((∃ b l' ps', v = .ref b ∧ KindAtP K H b l' ps' ∧ Q (.bl (decide (l = l' ∧ ps = ps'))) H) ∨ (∃ n, Kd K H v n ∧ Q (.bl false) H))
theorem u_kSigns (h : KindAt K H a l ps) (k : Q (vS l) H) : PropG (He.ga K "Kind") (sp_Kind_signs K) [] E (.ref a) H Q := by
  obtain ⟨dx, t, h1, h2⟩ := id h
  exact ⟨a, dx, _, rfl, h1, a, rfl, l, ps, h, k⟩
theorem u_kRow (h : KindAt K H a l ps) (k : ∀ q t H', H q = none → Ex [] H H' → H' q = some (.tup [vS l, .ref t]) → SqT K H' t (ps.map vS) → Q (.ref q) H') : PropG (He.ga K "Kind") (sp_Kind_row K) [] E (.ref a) H Q := by
  obtain ⟨dx, t, h1, h2⟩ := id h
  exact ⟨a, dx, _, rfl, h1, a, rfl, l, ps, h, k⟩
theorem u_kEq (h : KindAtP K H a l ps) (h2 : KindAtP K H b l' ps') (k : Q (.bl (decide (l = l' ∧ ps = ps'))) H) : rEqO (He.ga K "Kind") (sp_Kind_eq K) E (.ref a) (.ref b) H Q := by
  obtain ⟨⟨dx, t, h1, _⟩, _⟩ := id h
  obtain ⟨⟨dy, t', h1', _⟩, _⟩ := id h2
  exact ⟨a, dx, _, b, dy, _, rfl, rfl, h1, h1', a, _, rfl, l, ps, h, .inl ⟨b, l', ps', rfl, h2, _, rfl, k⟩⟩
theorem s_cmeth {C : Addr} {sp : Sp} {E : XK} {ta : TE} {tr : TA} {σ : St} (k : ta σ H fun x H1 => x = .ref C ∧ tr σ H1 fun vs H2 => sp (.ref C :: vs) H2 Q E) : ClX.tCMeth C sp E ta tr σ H Q := k
theorem s_cmethK {C : Addr} {n : Nat} {gV : List V → List V → List V} {sp : Sp} {E : XK} {ta : TE} {tr : TA} {σ : St} (k : ta σ H fun x H1 => x = .ref C ∧ tr σ H1 fun zs H2 => zs.length = n ∧ sp (gV [.ref C] zs) H2 Q E) : tCMethK C n sp gV E ta tr σ H Q := k
theorem u_isiKK (F : KindK K) (h : KindAt K H a l ps) (k : Q (.bl true) H) : rIsi K [.ref a, .ref (He.ga K "Kind")] H Q := by
  obtain ⟨dx, t, h, _⟩ := h
  exact ⟨_, _, _, _, _, rfl, .own _, F.ty _ _ _ _ h, F.me, k⟩
theorem u_isiNK (F : KindK K) {v : V} {n : String} (h : Kd K H v n) (k : Q (.bl false) H) : rIsi K [v, .ref (He.ga K "Kind")] H Q := ⟨_, _, _, _, _, rfl, .own _, h.1, F.no n h.2, k⟩
theorem s_self {x : V} {A : Prop} (k : A) : x = x ∧ A := ⟨rfl, k⟩
end
theorem let_plain {c : Nat} (h : c ∈ LET) : c < 55296 := by
  simp only [LET, List.mem_cons, List.not_mem_nil, or_false] at h
  omega
theorem sgn_perm (s : List Nat) : (sgn s).Perm s := by
  unfold sgn
  have := (srt_perm (s.map fun c => [c])).flatten
  rw [flat1] at this
  exact this
theorem sgn_of_perm {s t : List Nat} (h : s.Perm t) : sgn s = sgn t := by
  unfold sgn
  rw [srt_of_perm (h.map _)]
theorem sgn_idem (s : List Nat) : sgn (sgn s) = sgn s := sgn_of_perm (sgn_perm s)
theorem goodS_perm {s t : List Nat} (h : goodS s) (p : t.Perm s) : goodS t := ⟨isWord_mk (by rw [p.length_eq]; exact (isWord_len h.1).1) (by rw [p.length_eq]; exact (isWord_len h.1).2) fun c hc => isWord_in h.1 c (p.mem_iff.mp hc), by rw [p.length_eq]; exact h.2.1, p.nodup_iff.mpr h.2.2⟩
theorem goodP_signs {s t : List Nat} {ps : List (List Nat)} (h : goodP s ps) (hs : ∀ c ∈ s, c ∈ t) : goodP t ps := ⟨h.1, fun p hp => ⟨(h.2 p hp).1, fun c hc => hs c ((h.2 p hp).2 c hc)⟩⟩
theorem plainS {s : List Nat} (h : goodS s) : plain (sgn s) := fun c hc => let_plain (isWord_in h.1 c ((sgn_perm s).mem_iff.mp hc))
theorem plainP {s : List Nat} {ps : List (List Nat)} (h : goodS s) (hp : goodP s ps) : ∀ p ∈ srt ps, plain p := fun p hq c hc => let_plain (isWord_in h.1 c ((hp.2 p (srt_mem.mp hq)).2 c hc))
end WB
namespace WB
open PySem PySem.Spec PyProof.Rows L2
local macro_rules | `(tactic| walk_at "lit") => `(tactic| first | exact lit_abc | exact lit_empty)
local macro_rules | `(tactic| walk_at "nm") => `(tactic| focus first | exact List.not_mem_nil | (simp only [List.mem_singleton]; first | assumption | (exact Ne.symm (by assumption)) | (intro hz; subst hz; simp_all; done)))
local macro_rules | `(tactic| walk_at "hp") => `(tactic| first | assumption | (apply Ex.get0 (by assumption); walk_at "hp") | (apply Ex.get (by assumption); (walk_at "nm"); (walk_at "hp")))
local macro_rules | `(tactic| walk_at "sq") => `(tactic| first | assumption | (apply SqL.of; walk_at "hp") | (apply Ex.sqL (by assumption); (walk_at "nm"); (walk_at "sq")))
local macro_rules | `(tactic| walk_at "sqt") => `(tactic| first | assumption | (apply SqT.of; walk_at "hp") | (apply Ex.sqT (by assumption); (walk_at "nm"); (walk_at "sqt")))
local macro_rules | `(tactic| walk_at "sz") => `(tactic| focus ((with_reducible refine Nat.le_trans (m := 100000) ?_ (by decide)); first | omega | (simp; done) | (simp; omega)))
local macro_rules | `(tactic| walk_at "mul") => `(tactic| first | exact Or.inr ⟨by omega, by omega⟩ | exact Or.inl ⟨by omega, by omega⟩)
local macro_rules | `(tactic| walk_at "pool") => `(tactic| first | assumption | (apply PoolAt.ex (by assumption); (walk_at "nm"); (walk_at "pool")))
local macro_rules | `(tactic| walk_at "ring") => `(tactic| first | assumption | (apply RingAt.ex (by assumption); (walk_at "nm"); (walk_at "ring")))
local macro_rules | `(tactic| walk_at "st") => `(tactic| first
  | with_reducible refine s_seq ?_
  | with_reducible refine s_asg ?_
  | with_reducible refine s_gName ?_
  | with_reducible refine s_ret ?_
  | with_reducible refine s_ifS ?_
  | with_reducible refine s_next ?_
  | with_reducible refine s_op ?_
  | ((with_reducible apply s_var); exact rfl)
  | ((with_reducible apply s_cS); (walk_at "lit"))
  | with_reducible refine s_c ?_
  | with_reducible refine s_cb ?_
  | with_reducible refine s_cons ?_
  | with_reducible refine s_nil ?_
  | with_reducible refine s_un ?_
  | with_reducible refine s_call ?_
  | with_reducible refine s_test ?_
  | with_reducible refine s_tB ?_
  | with_reducible refine s_blQ ?_
  | with_reducible refine s_not ?_
  | with_reducible refine s_and ?_
  | with_reducible refine s_or ?_
  | with_reducible refine s_andV ?_
  | with_reducible refine s_orV ?_
  | with_reducible refine s_notV ?_
  | with_reducible refine s_ifE ?_
  | with_reducible refine s_chain ?_
  | ((with_reducible refine s_T ?_ ?_); (with_reducible exact rfl))
  | with_reducible refine s_nT ?_
  | with_reducible refine s_nF ?_
  | ((with_reducible refine s_F ?_ ?_); (with_reducible exact rfl))
  | ((with_reducible refine s_T ?_ ?_); assumption)
  | ((with_reducible refine s_F ?_ ?_); assumption)
  | ((with_reducible refine s_nB ?_ ?_); assumption)
  | ((with_reducible refine s_nA ?_ ?_); assumption)
  | ((with_reducible refine s_Td ?_ ?_); omega)
  | ((with_reducible refine s_Fd ?_ ?_); omega)
  | ((with_reducible refine s_nTd ?_ ?_); omega)
  | ((with_reducible refine s_nFd ?_ ?_); omega)
  | with_reducible refine s_sfld ?_
  | with_reducible refine s_addI ?_
  | with_reducible refine s_subI ?_
  | ((with_reducible refine s_mulI ?_ ?_); (walk_at "mul"))
  | ((with_reducible refine s_divI ?_ ?_); exact ⟨by omega, by omega⟩)
  | ((with_reducible refine s_modI ?_ ?_); omega)
  | ((with_reducible refine s_powI ?_ ?_); exact ⟨by decide, by decide, by decide⟩)
  | with_reducible refine s_ltI ?_
  | with_reducible refine s_leI ?_
  | with_reducible refine s_gtI ?_
  | with_reducible refine s_geI ?_
  | with_reducible refine s_negI ?_
  | with_reducible refine s_absI ?_
  | with_reducible refine s_intI ?_
  | with_reducible refine s_min2 ?_
  | with_reducible refine s_max2 ?_
  | with_reducible refine s_eqI ?_
  | with_reducible refine s_neI ?_
  | with_reducible refine s_eqS ?_
  | with_reducible refine s_neS ?_
  | with_reducible refine s_inSg ?_
  | with_reducible refine s_notInSg ?_
  | ((with_reducible refine s_addS ?_ ?_); (walk_at "sz"))
  | ((with_reducible refine s_lenS ?_ ?_); (walk_at "sz"))
  | ((with_reducible apply s_lenL); (walk_at "sq"))
  | ((with_reducible apply s_lenT); (walk_at "sqt"))
  | ((with_reducible apply s_ixL); (walk_at "sq"); exact rfl)
  | ((with_reducible apply s_ixT); (walk_at "sqt"); exact rfl)
  | with_reducible refine s_gSub ?_
  | ((with_reducible apply s_setL); (walk_at "hp"); (exact rfl); (intro _ _ _))
  | ((with_reducible refine s_alloc ?_ ?_); (walk_at "sz"); (intro _ _ _ _ _))
  | ((with_reducible refine s_divmod ?_ ?_); (exact ⟨by omega, PyProof.noPylong_small (by omega)⟩); (intro _ _ _ _ _))
  | ((with_reducible apply s_gTup); (walk_at "sqt"); (exact rfl))
  | ((with_reducible apply s_gLst); (walk_at "sq"); (exact rfl))
  | with_reducible refine s_gCons ?_
  | with_reducible refine s_gNil ?_
  | with_reducible refine s_lc ?_
  | ((with_reducible apply s_cat); (walk_at "hp"); (walk_at "hp"); (walk_at "sz"); (intro _ _ _ _ _))
  | ((with_reducible apply s_slL); (walk_at "sq"); (intro _ _ _ _ _))
  | with_reducible refine s_for ?_
  | with_reducible refine s_rng1 ?_
  | ((with_reducible refine s_rng1i ?_ ?_); (constructor <;> omega))
  | with_reducible refine s_rng2 ?_
  | ((with_reducible refine s_rng2i ?_ ?_); (refine ⟨?_, ?_, ?_, ?_⟩ <;> omega))
  | with_reducible refine s_iStr ?_
  | with_reducible refine s_iStrS ?_
  | with_reducible refine s_iList ?_
  | ((with_reducible apply s_iListA); (walk_at "sq"))
  | with_reducible refine s_iTup ?_
  | ((with_reducible apply s_iTupA); (walk_at "sqt"))
  | with_reducible refine s_sl ?_
  | with_reducible refine s_noPart ?_
  | with_reducible refine s_part ?_
  | with_reducible refine s_int1 ?_
  | ((with_reducible refine s_slS ?_ ?_); (walk_at "sz"))
  | with_reducible refine s_tup ?_
  | with_reducible refine s_lst ?_
  | with_reducible refine s_par ?_
  | with_reducible refine s_pair ?_
  | with_reducible refine s_M1 ?_
  | with_reducible refine s_isStr ?_
  | with_reducible refine s_revS ?_
  | ((with_reducible refine s_revS1 ?_ ?_); (walk_at "sz"))
  | with_reducible refine s_fldE ?_
  | with_reducible refine s_propE ?_
  | ((with_reducible refine u_draw ?_ ?_ ?_ ?_); omega; omega; (walk_at "pool"); (intro _ _ _ _ _ _))
  | ((with_reducible refine u_pool ?_); (intro _ _ _ _ _))
  | with_reducible refine u_is_integer ?_
  | with_reducible refine s_isiII ?_
  | with_reducible refine s_isiIB ?_
  | with_reducible refine s_isiSS ?_
  | ((with_reducible apply u_fldRing); assumption; (walk_at "ring"))
  | ((with_reducible apply u_textP); (walk_at "ring"))
  | ((with_reducible apply u_strRing); (walk_at "ring"))
  | ((with_reducible apply u_eqRing); (walk_at "ring"); (walk_at "ring"))
  | ((with_reducible apply u_isiRing); assumption; (walk_at "ring"))
  | ((with_reducible refine u_is_word ?_ ?_); omega; (intro _ _))
  | ((with_reducible refine u_turnings ?_ ?_); omega; (intro _ _ _ _ _))
  | with_reducible refine s_makeE ?_
  | with_reducible refine s_methE ?_)
local macro_rules | `(tactic| walk_at "go") => `(tactic| repeat (walk_at "st"))
local macro_rules | `(tactic| walk_at "exs") => `(tactic| first | exact Ex.rfl | assumption | (apply Ex.snoc (by assumption); walk_at "exs") | (apply Ex.snocW (by assumption); walk_at "exs"))
local macro_rules | `(tactic| walk_at "kind") => `(tactic| first | assumption | (apply KindAt.ex0 (by assumption); (walk_at "kind")) | (apply KindAt.exP (by assumption) (by assumption); (walk_at "kind")))
local macro_rules | `(tactic| walk_at "st") => `(tactic| first
  | with_reducible refine s_lenSet ?_
  | with_reducible refine s_drop ?_
  | with_reducible refine s_bm ?_
  | with_reducible refine s_notN ?_
  | with_reducible refine s_isN ?_
  | ((with_reducible apply s_tyL); (walk_at "hp"))
  | with_reducible refine s_enumT ?_
  | ((with_reducible apply s_enumTA); (walk_at "sqt"))
  | with_reducible refine s_lc2 ?_)
local macro_rules | `(tactic| walk_at "st") => `(tactic| first
  | with_reducible refine s_makeK ?_
  | with_reducible refine s_cmeth ?_
  | with_reducible refine s_cmethK ?_
  | with_reducible refine s_self ?_
  | ((with_reducible apply u_kSigns); (walk_at "kind")))
def t_Kind_row (K : PySem.W.Frag) : TS :=
  (tRet (tTup (tCons (tFld K (tVar 0) "letters") (tCons (tFld K (tVar 0) "allowed") tNil))))
def t_Kind_eq (K : PySem.W.Frag) : TS :=
  (tRet (tAndV (tCB (rIsi K) (tCons (tVar 1) (tCons (tC (.ref (He.ga K "Kind"))) tNil))) (tAndV (tOp rEq (tFld K (tVar 0) "letters") (tFld K (tVar 1) "letters")) (tOp (rEqD K) (tFld K (tVar 0) "allowed") (tFld K (tVar 1) "allowed")))))
section
variable {K : PySem.W.Frag} {vs : List V} {H : Hp} {Q : VK} {E : XK}
variable (F : KindK K)
include F
theorem pure_Kind_row (h : sp_Kind_row K vs H Q E) : t_Kind_row K (E1 Q) (start ["self"] vs) H := by
  obtain ⟨a, rfl, l, ps, hk, k⟩ := h
  show t_Kind_row K (E1 Q) [some (.ref a)] H
  unfold t_Kind_row
  walk_at "go"
  refine u_fldLetters F hk ?_
  walk_at "go"
  refine u_fldAllowed F hk fun t ht => ?_
  walk_at "go"
  rename_i q H1 n1 e1 h1
  exact k q t H1 n1 e1 h1 (e1.sqT (by simp) ht)
theorem pure_Kind_eq (h : sp_Kind_eq K vs H Q E) : t_Kind_eq K (E1 Q) (start ["self", "other"] vs) H := by
  obtain ⟨a, v, rfl, l, ps, hk, h⟩ := h
  show t_Kind_eq K (E1 Q) [some (.ref a), some v] H
  unfold t_Kind_eq
  walk_at "go"
  rcases h with ⟨b, l', ps', rfl, hb, k⟩ | ⟨n, hn, k⟩
  · refine u_isiKK F hb.1 ?_
    walk_at "go"
    refine u_fldLetters F hk.1 ?_
    walk_at "go"
    refine u_fldLetters F hb.1 ?_
    walk_at "go"
    refine s_2 (fun h1 => ?_) (fun h1 => ?_)
    · have h1 := of_decide_eq_true h1
      walk_at "go"
      refine u_fldAllowed F hk.1 fun t ht => ?_
      walk_at "go"
      refine u_fldAllowed F hb.1 fun t' ht' => ?_
      walk_at "go"
      refine s_eqT1 ht ht' hk.2.2 hb.2.2 ?_
      have e : decide (ps = ps') = decide (l = l' ∧ ps = ps') := by simp [h1]
      rw [e]
      exact k
    · have h1 := of_decide_eq_false h1
      have e : false = decide (l = l' ∧ ps = ps') := by simp [h1]
      rw [e]
      exact k
  · refine u_isiNK F hn ?_
    walk_at "go"
    exact k
end
end WB
namespace WB
open PySem PySem.Spec PyProof.Rows L2
def sTuple : List Nat := [116, 117, 112, 108, 101]
def sList : List Nat := [108, 105, 115, 116]
def sTruth : List Nat := [116, 114, 117, 116, 104]
def sPlain : List Nat := [112, 108, 97, 105, 110]
def Scal (v : V) (d : PyData) : Prop := (v = .non ∧ d = .none) ∨ (∃ b, v = .bl b ∧ d = .bool b) ∨ (∃ i, v = .int i ∧ d = .int i) ∨ (∃ l, plain l ∧ v = vS l ∧ d = dS l)
def Dd (K : PySem.W.Frag) (H : Hp) : Nat → V → PyData → Prop
  | 0, v, d => Scal v d
  | n + 1, v, d => Scal v d ∨ (∃ a xs ds, v = .ref a ∧ d = .tuple ds ∧ SqT K H a xs ∧ xs.length ≤ 1000 ∧ ds.length = xs.length ∧ ∀ (i : Nat) x e, xs[i]? = some x → ds[i]? = some e → Dd K H n x e) ∨
    (∃ a xs ds, v = .ref a ∧ d = .list ds ∧ H a = some (.lst xs) ∧ xs.length ≤ 1000 ∧ ds.length = xs.length ∧ ∀ (i : Nat) x e, xs[i]? = some x → ds[i]? = some e → Dd K H n x e)
def Fr (F : Addr → Prop) (H : Hp) : Nat → V → PyData → Prop
  | 0, v, d => Scal v d
  | n + 1, v, d => Scal v d ∨ (∃ a xs ds, v = .ref a ∧ d = .list ds ∧ F a ∧ H a = some (.lst xs) ∧ ds.length = xs.length ∧ ∀ (i : Nat) x e, xs[i]? = some x → ds[i]? = some e → Fr F H n x e)
theorem Scal.dp {K : PySem.W.Frag} {H : Hp} {v : V} {d : PyData} (h : Scal v d) : Dp K H v d := by
  rcases h with ⟨rfl, rfl⟩ | ⟨b, rfl, rfl⟩ | ⟨i, rfl, rfl⟩ | ⟨l, _, rfl, rfl⟩
  · exact .non
  · exact .bl b
  · exact .int i
  · exact .str _
theorem dpAll_of {K : PySem.W.Frag} {H : Hp} : ∀ (xs : List V) (ds : List PyData), ds.length = xs.length → (∀ (i : Nat) x e, xs[i]? = some x → ds[i]? = some e → Dp K H x e) → DpAll K H xs ds
  | [], [], _, _ => .nil
  | x :: xs, d :: ds, hl, h => .cons (h 0 x d rfl rfl) (dpAll_of xs ds (by simpa using hl) fun i y e h1 h2 => h (i + 1) y e h1 h2)
theorem Fr.dp {K : PySem.W.Frag} {F : Addr → Prop} {H : Hp} : ∀ (n : Nat) (v : V) (d : PyData), Fr F H n v d → Dp K H v d
  | 0, _, _, h => Scal.dp h
  | n + 1, v, d, h => by
    rcases h with h | ⟨a, xs, ds, rfl, rfl, _, h1, hl, h2⟩
    · exact Scal.dp h
    · exact .lst (SqL.of h1) (dpAll_of xs ds hl fun i x e hx he => Fr.dp n x e (h2 i x e hx he))
theorem Fr.mono {F F' : Addr → Prop} {H H' : Hp} (hF : ∀ a, F a → F' a) (hh : ∀ a xs, F a → H a = some (.lst xs) → H' a = some (.lst xs)) : ∀ (n : Nat) (v : V) (d : PyData), Fr F H n v d → Fr F' H' n v d
  | 0, _, _, h => h
  | n + 1, v, d, h => by
    rcases h with h | ⟨a, xs, ds, rfl, rfl, f, h1, hl, h2⟩
    · exact .inl h
    · exact .inr ⟨a, xs, ds, rfl, rfl, hF a f, hh a xs f h1, hl, fun i x e hx he => Fr.mono hF hh n x e (h2 i x e hx he)⟩
theorem Dd.ex {K : PySem.W.Frag} {H H' : Hp} (e : Ex [] H H') : ∀ (n : Nat) (v : V) (d : PyData), Dd K H n v d → Dd K H' n v d
  | 0, _, _, h => h
  | n + 1, v, d, h => by
    rcases h with h | ⟨a, xs, ds, rfl, rfl, h1, hn, hl, h2⟩ | ⟨a, xs, ds, rfl, rfl, h1, hn, hl, h2⟩
    · exact .inl h
    · exact .inr (.inl ⟨a, xs, ds, rfl, rfl, e.sqT (by simp) h1, hn, hl, fun i x y hx hy => Dd.ex e n x y (h2 i x y hx hy)⟩)
    · exact .inr (.inr ⟨a, xs, ds, rfl, rfl, e.get0 h1, hn, hl, fun i x y hx hy => Dd.ex e n x y (h2 i x y hx hy)⟩)
theorem lay_all : ∀ {ds : List PyData}, (∀ e ∈ ds, PyData.canLay0 e = true) → PyData.canLayAll0 ds = true
  | [], _ => by simp [PyData.canLayAll0]
  | d :: ds, h => by
    rw [PyData.canLayAll0]
    exact Bool.and_eq_true_iff.mpr ⟨h d List.mem_cons_self, lay_all fun e he => h e (List.mem_cons_of_mem _ he)⟩
theorem dep_all {m : Nat} : ∀ {ds : List PyData}, (∀ e ∈ ds, PyData.depth e ≤ m) → PyData.depthAll ds ≤ m
  | [], _ => by simp [PyData.depthAll]
  | d :: ds, h => by
    rw [PyData.depthAll]
    exact Nat.max_le.mpr ⟨h d List.mem_cons_self, dep_all fun e he => h e (List.mem_cons_of_mem _ he)⟩
theorem lay_dS {l : List Nat} (h : plain l) : PyData.canLay0 (dS l) = true := by
  unfold dS
  rw [PyData.canLay0]
  exact strOk_S h
theorem dep_dS {l : List Nat} : PyData.depth (dS l) = 0 := by simp [dS, PyData.depth]
theorem scal_shape {v : V} {d : PyData} (h : Scal v d) : PyData.canLay0 d = true ∧ PyData.depth d = 0 := by
  rcases h with ⟨rfl, rfl⟩ | ⟨b, rfl, rfl⟩ | ⟨i, rfl, rfl⟩ | ⟨l, hl, rfl, rfl⟩
  · simp [PyData.canLay0, PyData.depth]
  · simp [PyData.canLay0, PyData.depth]
  · simp [PyData.canLay0, PyData.depth]
  · exact ⟨lay_dS hl, dep_dS⟩
theorem plain_tags : plain sTuple ∧ plain sList ∧ plain sTruth ∧ plain sPlain := by
  refine ⟨?_, ?_, ?_, ?_⟩ <;> (intro c hc; revert c; decide)
def tagOf : PyData → List Nat
  | .bool _ => sTruth
  | _ => sPlain
theorem mem_get {α : Type} {l : List α} {x : α} (h : x ∈ l) : ∃ i : Nat, l[i]? = some x := List.mem_iff_getElem?.mp h
end WB
namespace WB
open PySem PySem.Spec PyProof.Rows L2
theorem lit_116_117_112_108_101 : ("tuple" : Str) = S [116, 117, 112, 108, 101] := by decide +kernel
theorem lit_108_105_115_116 : ("list" : Str) = S [108, 105, 115, 116] := by decide +kernel
theorem lit_100_105_99_116 : ("dict" : Str) = S [100, 105, 99, 116] := by decide +kernel
theorem lit_116_114_117_116_104 : ("truth" : Str) = S [116, 114, 117, 116, 104] := by decide +kernel
theorem lit_112_108_97_105_110 : ("plain" : Str) = S [112, 108, 97, 105, 110] := by decide +kernel
end WB
namespace WB
open PySem PySem.Spec PyProof.Rows L2
def MRK : List Nat := LET ++ [48, 49, 50, 51, 52, 53, 54, 55, 56, 57]
theorem lit_MRK : ("abcdefghijklmnopqrstuvwxyz0123456789" : Str) = S MRK := by decide +kernel
structure Rw where
  a : List Nat
  c : Nat
  b : List Nat
  n : Int
structure Tn where
  a : List Nat
  b : List Nat
  n : Int
structure LM where
  ab : List Nat
  st : List (List Nat)
  tb : List Nat → Nat → List Nat × Int
  en : List Nat → List Nat × Int
  ok : List (List Nat)
def rwV (r : Rw) : List V := [vS r.a, vS [r.c], vS r.b, .int r.n]
def tnV (t : Tn) : List V := [vS t.a, vS t.b, .int t.n]
def TupsAt (K : PySem.W.Frag) (H : Hp) (t : Addr) (ls : List (List V)) : Prop := ∃ xs, SqT K H t xs ∧ xs.length = ls.length ∧ ∀ (i : Nat) x l, xs[i]? = some x → ls[i]? = some l → ∃ p, x = .ref p ∧ SqT K H p l
section
variable {K : PySem.W.Frag} {H H' : Hp} {Q : VK} {E : XK} {t a : Addr}
theorem TupsAt.ex0 {ls : List (List V)} (e : Ex [] H H') (h : TupsAt K H t ls) : TupsAt K H' t ls := by
  obtain ⟨xs, h1, h2, h3⟩ := h
  refine ⟨xs, e.sqT (by simp) h1, h2, fun i x l hx hl => ?_⟩
  obtain ⟨p, h4, h5⟩ := h3 i x l hx hl
  exact ⟨p, h4, e.sqT (by simp) h5⟩
theorem TupsAt.exP {ls : List (List V)} (hp : PoolAt H a) (e : Ex [a] H H') (h : TupsAt K H t ls) : TupsAt K H' t ls := by
  obtain ⟨xs, h1, h2, h3⟩ := h
  refine ⟨xs, sqT_pool hp e h1, h2, fun i x l hx hl => ?_⟩
  obtain ⟨p, h4, h5⟩ := h3 i x l hx hl
  exact ⟨p, h4, sqT_pool hp e h5⟩
end
end WB
namespace WB
open PySem PySem.Spec PyProof.Rows L2
section
variable {K : PySem.W.Frag} {vs : List V} {H : Hp} {Q : VK} {E : XK}
def PrsAt (K : PySem.W.Frag) (H : Hp) (q : Addr) (zs : List (List Nat × Nat)) : Prop := ∃ xs, H q = some (.lst xs) ∧ xs.length = zs.length ∧ ∀ (i : Nat) x z, xs[i]? = some x → zs[i]? = some z → ∃ p, x = .ref p ∧ SqT K H p [vS z.1, vS [z.2]]
theorem sqT_lst {q t : Addr} {xs ys : List V} {H' : Hp} (hq : H q = some (.lst xs)) (e : Ex [q] H H') (h : SqT K H t ys) : SqT K H' t ys := by
  rcases h with (h | ⟨o, h⟩) | h
  · exact e.sqT (by simp only [List.mem_singleton]; intro w; rw [w, hq] at h; cases h) (.inl (.inl h))
  · exact e.sqT (by simp only [List.mem_singleton]; intro w; rw [w, hq] at h; cases h) (.inl (.inr ⟨o, h⟩))
  · exact .inr h
theorem PrsAt.ex0 {q : Addr} {zs : List (List Nat × Nat)} {H' : Hp} (e : Ex [] H H') (h : PrsAt K H q zs) : PrsAt K H' q zs := by
  obtain ⟨xs, h1, h2, h3⟩ := h
  refine ⟨xs, e.get0 h1, h2, fun i x z hx hz => ?_⟩
  obtain ⟨p, h4, h5⟩ := h3 i x z hx hz
  exact ⟨p, h4, e.sqT (by simp) h5⟩
end
end WB
namespace WB
open PySem PySem.Spec PyProof.Rows L2
def kS (l : List Nat) : Key := .inr (S l)
def TabOk (K : PySem.W.Frag) (H : Hp) (kt : List (List Key × V)) (M : LM) : Prop := ∀ a ∈ M.st, ∀ c ∈ M.ab, ∃ p, valV kt [kS a, kS [c]] = some (.ref p) ∧ SqT K H p [vS (M.tb a c).1, .int (M.tb a c).2]
def EndOk (K : PySem.W.Frag) (H : Hp) (ke : List (Key × V)) (M : LM) : Prop := ∀ a ∈ M.st, ∃ p, valV ke (kS a) = some (.ref p) ∧ SqT K H p [vS (M.en a).1, .int (M.en a).2]
def LoopAt (K : PySem.W.Frag) (H : Hp) (x : Addr) (M : LM) : Prop := ∃ dx o tt te tm kt ke, H x = some (.ins (He.ga K "Loop") dx [("letters", vS M.ab), ("order", .ref o), ("table", .ref tt), ("ending", .ref te), ("marked", .ref tm)]) ∧
  SqT K H o (M.st.map vS) ∧ H tt = some (.dT kt) ∧ TabOk K H kt M ∧ H te = some (.dK ke) ∧ EndOk K H ke M ∧ SqT K H tm (M.ok.map vS)
section
variable {K : PySem.W.Frag} {H H' : Hp} {Q : VK} {E : XK} {x a : Addr} {M : LM}
theorem TabOk.ex0 {kt : List (List Key × V)} (e : Ex [] H H') (h : TabOk K H kt M) : TabOk K H' kt M := fun a ha c hc => by
  obtain ⟨p, h1, h2⟩ := h a ha c hc
  exact ⟨p, h1, e.sqT (by simp) h2⟩
theorem EndOk.ex0 {ke : List (Key × V)} (e : Ex [] H H') (h : EndOk K H ke M) : EndOk K H' ke M := fun a ha => by
  obtain ⟨p, h1, h2⟩ := h a ha
  exact ⟨p, h1, e.sqT (by simp) h2⟩
theorem TabOk.exP {kt : List (List Key × V)} (hp : PoolAt H a) (e : Ex [a] H H') (h : TabOk K H kt M) : TabOk K H' kt M := fun b hb c hc => by
  obtain ⟨p, h1, h2⟩ := h b hb c hc
  exact ⟨p, h1, sqT_pool hp e h2⟩
theorem EndOk.exP {ke : List (Key × V)} (hp : PoolAt H a) (e : Ex [a] H H') (h : EndOk K H ke M) : EndOk K H' ke M := fun b hb => by
  obtain ⟨p, h1, h2⟩ := h b hb
  exact ⟨p, h1, sqT_pool hp e h2⟩
theorem LoopAt.ex0 (e : Ex [] H H') (h : LoopAt K H x M) : LoopAt K H' x M := by
  obtain ⟨dx, o, tt, te, tm, kt, ke, h1, h2, h3, h4, h5, h6, h7⟩ := h
  exact ⟨dx, o, tt, te, tm, kt, ke, e.get0 h1, e.sqT (by simp) h2, e.get0 h3, h4.ex0 e, e.get0 h5, h6.ex0 e, e.sqT (by simp) h7⟩
theorem LoopAt.exP (hp : PoolAt H a) (e : Ex [a] H H') (h : LoopAt K H x M) : LoopAt K H' x M := by
  obtain ⟨dx, o, tt, te, tm, kt, ke, h1, h2, h3, h4, h5, h6, h7⟩ := h
  have hq := hp
  obtain ⟨y1, y2, y3, hq⟩ := hq
  exact ⟨dx, o, tt, te, tm, kt, ke, e.get (by simp only [List.mem_singleton]; intro w; rw [w, hq] at h1; cases h1) h1, sqT_pool hp e h2, e.get (by simp only [List.mem_singleton]; intro w; rw [w, hq] at h3; cases h3) h3, h4.exP hp e, e.get (by simp only [List.mem_singleton]; intro w; rw [w, hq] at h5; cases h5) h5, h6.exP hp e, sqT_pool hp e h7⟩
def DcTW (J : It) (g : TG) (tt : TT) (tk tv : TE) (vs : List Nat) (σ : St) (H1 : Hp) (Q : VK) : Prop := ∀ D, H1 D = none → ∃ W : Nat → Nat → Hp → Prop, (∃ m, W 0 m (upd H1 D (.dT []))) ∧ ∀ i m H, W i m H →
  (J.stop i H ∧ Q (.ref D) H) ∨ (J.go i H ∧ ∃ Nx : Hp → Prop, (∀ H', Nx H' → ∃ m', m' < m ∧ W (i + 1) m' H') ∧ ∀ x H', J.yld i H x H' → g x (wipe σ vs) H' fun σ2 H2 => wipe σ2 vs = wipe σ vs ∧ tt σ2 H2 fun c H3 =>
    if c = true then tk σ2 H3 fun y H4 => tv σ2 H4 fun z H5 => ∃ kvs k b, y = .ref b ∧ H5 b = some (.tup (k.map kV)) ∧ H5 D = some (.dT kvs) ∧ kvs.length < sizeLine ∧ Nx (upd H5 D (.dT (putK kvs k z))) else Nx H3)
theorem s_dcT {wi : TI} {g : TG} {tt : TT} {tk tv : TE} {vs : List Nat} {σ : St} (k : wi σ H fun J H1 => DcTW J g tt tk tv vs σ H1 Q) : tDcT wi g tt tk tv vs σ H Q := k
def DcW (J : It) (g : TG) (tt : TT) (tk tv : TE) (vs : List Nat) (σ : St) (H1 : Hp) (Q : VK) : Prop := ∀ D, H1 D = none → ∃ W : Nat → Nat → Hp → Prop, (∃ m, W 0 m (upd H1 D (.dK []))) ∧ ∀ i m H, W i m H →
  (J.stop i H ∧ Q (.ref D) H) ∨ (J.go i H ∧ ∃ Nx : Hp → Prop, (∀ H', Nx H' → ∃ m', m' < m ∧ W (i + 1) m' H') ∧ ∀ x H', J.yld i H x H' → g x (wipe σ vs) H' fun σ2 H2 => wipe σ2 vs = wipe σ vs ∧ tt σ2 H2 fun c H3 =>
    if c = true then tk σ2 H3 fun y H4 => tv σ2 H4 fun z H5 => ∃ kvs k, y = kV k ∧ H5 D = some (.dK kvs) ∧ kvs.length < sizeLine ∧ Nx (upd H5 D (.dK (putK kvs k z))) else Nx H3)
theorem s_dc {wi : TI} {g : TG} {tt : TT} {tk tv : TE} {vs : List Nat} {σ : St} (k : wi σ H fun J H1 => DcW J g tt tk tv vs σ H1 Q) : tDc wi g tt tk tv vs σ H Q := k
end
end WB
namespace WB
open PySem PySem.Spec PyProof.Rows L2
end WB
namespace WB
open PySem PySem.Spec PyProof.Rows L2
def stp (M : LM) (z : List Nat × Int) (c : Nat) : List Nat × Int := ((M.tb z.1 c).1, z.2 + (M.tb z.1 c).2)
def run (M : LM) (a : List Nat) (w : List Nat) : List Nat × Int := w.foldl (stp M) (a, 0)
end WB
namespace WB
open PySem PySem.Spec PyProof.Rows L2
end WB
namespace WB
open PySem PySem.Spec PyProof.Rows L2
def Tups (K : PySem.W.Frag) (H : Hp) (xs : List V) (ls : List (List V)) : Prop := xs.length = ls.length ∧ ∀ (i : Nat) x l, xs[i]? = some x → ls[i]? = some l → ∃ p, x = .ref p ∧ SqT K H p l
section
variable {K : PySem.W.Frag} {H H' : Hp} {Q : VK} {E : XK} {t a x : Addr} {M : LM} {xs : List V} {ls : List (List V)}
theorem TupsAt.mk (h : SqT K H t xs) (h2 : Tups K H xs ls) : TupsAt K H t ls := ⟨xs, h, h2.1, h2.2⟩
theorem Tups.ex0 (e : Ex [] H H') (h : Tups K H xs ls) : Tups K H' xs ls := ⟨h.1, fun i x l h1 h2 => by
  obtain ⟨p, h3, h4⟩ := h.2 i x l h1 h2
  exact ⟨p, h3, e.sqT (by simp) h4⟩⟩
theorem Tups.nil : Tups K H [] [] := ⟨rfl, by simp⟩
theorem sqT_upd {D : Addr} {o ys : List V} (hd : H D = none ∨ ∃ l, H D = some (.lst l)) (h : SqT K H t ys) : SqT K (upd H D (.lst o)) t ys := by
  rcases hd with hd | ⟨l, hd⟩
  · exact (Ex.new (m := []) hd).sqT (by simp) h
  · exact sqT_lst hd (Ex.put (by simp)) h
theorem Tups.upd {D : Addr} {o : List V} (hd : H D = none ∨ ∃ l, H D = some (.lst l)) (h : Tups K H xs ls) : Tups K (L2.upd H D (.lst o)) xs ls := ⟨h.1, fun i x l h1 h2 => by
  obtain ⟨p, h3, h4⟩ := h.2 i x l h1 h2
  exact ⟨p, h3, sqT_upd hd h4⟩⟩
def rwsOf (M : LM) : List Rw := M.st.flatMap fun a => M.ab.map fun c => ⟨a, c, (M.tb a c).1, (M.tb a c).2⟩
def tnsOf (M : LM) : List Tn := M.st.map fun a => ⟨a, (M.en a).1, (M.en a).2⟩
def LRowAt (K : PySem.W.Frag) (H : Hp) (p : Addr) (M : LM) : Prop := ∃ o r t y, SqT K H p [vS M.ab, .ref o, .ref r, .ref t, .ref y] ∧ SqT K H o (M.st.map vS) ∧ TupsAt K H r ((rwsOf M).map rwV) ∧ TupsAt K H t ((tnsOf M).map tnV) ∧ SqT K H y (M.ok.map vS)
theorem LRowAt.ex0 {p : Addr} (e : Ex [] H H') (h : LRowAt K H p M) : LRowAt K H' p M := by
  obtain ⟨o, r, t, y, h1, h2, h3, h4, h5⟩ := h
  exact ⟨o, r, t, y, e.sqT (by simp) h1, e.sqT (by simp) h2, h3.ex0 e, h4.ex0 e, e.sqT (by simp) h5⟩
end
end WB
namespace WB
open PySem PySem.Spec PyProof.Rows L2
end WB
namespace WB
open PySem PySem.Spec PyProof.Rows L2
theorem lit_z : ("z" : Str) = S [122] := by decide +kernel
def MAt (K : PySem.W.Frag) (H : Hp) (q : Addr) (M : LM) : Prop := ∃ po ss es oo kt ke, H q = some (.lst [vS M.ab, .ref po, .ref ss, .ref es, .ref oo]) ∧ H po = some (.lst (M.st.map vS)) ∧ H ss = some (.dT kt) ∧ TabOk K H kt M ∧ H es = some (.dK ke) ∧ EndOk K H ke M ∧ H oo = some (.lst (M.ok.map vS))
section
variable {K : PySem.W.Frag} {H H' : Hp} {Q : VK} {E : XK} {a q x : Addr} {M : LM}
theorem MAt.ex0 (e : Ex [] H H') (h : MAt K H q M) : MAt K H' q M := by
  obtain ⟨po, ss, es, oo, kt, ke, h1, h2, h3, h4, h5, h6, h7⟩ := h
  exact ⟨po, ss, es, oo, kt, ke, e.get0 h1, e.get0 h2, e.get0 h3, h4.ex0 e, e.get0 h5, h6.ex0 e, e.get0 h7⟩
theorem strs_ne {ls : List (List Nat)} {x y z : Int} (h : ls.map vS = [.int x, .int y, .int z]) : False := by
  match ls, h with
  | a :: l, h => cases (List.cons.inj h).1
theorem MAt.exP (hp : PoolAt H a) (e : Ex [a] H H') (h : MAt K H q M) : MAt K H' q M := by
  obtain ⟨po, ss, es, oo, kt, ke, h1, h2, h3, h4, h5, h6, h7⟩ := h
  have hq := hp
  obtain ⟨y1, y2, y3, hq⟩ := hq
  refine ⟨po, ss, es, oo, kt, ke, e.get ?_ h1, e.get ?_ h2, e.get ?_ h3, h4.exP hp e, e.get ?_ h5, h6.exP hp e, e.get ?_ h7⟩
  · simp only [List.mem_singleton]; intro w; rw [w, hq] at h1; cases h1
  · simp only [List.mem_singleton]; intro w; rw [w, hq] at h2; exact strs_ne (HO.lst.inj (Option.some.inj h2)).symm
  · simp only [List.mem_singleton]; intro w; rw [w, hq] at h3; cases h3
  · simp only [List.mem_singleton]; intro w; rw [w, hq] at h5; cases h5
  · simp only [List.mem_singleton]; intro w; rw [w, hq] at h7; exact strs_ne (HO.lst.inj (Option.some.inj h7)).symm
theorem goodS_sgn {s : List Nat} (h : goodS s) : goodS (sgn s) := goodS_perm h (sgn_perm s)
theorem LoopAt.same {M' : LM} (h1 : M'.ab = M.ab) (h2 : M'.st = M.st) (h3 : ∀ a ∈ M.st, ∀ c ∈ M.ab, M'.tb a c = M.tb a c) (h4 : ∀ a ∈ M.st, M'.en a = M.en a) (h5 : M'.ok = M.ok) (h : LoopAt K H x M) : LoopAt K H x M' := by
  obtain ⟨dx, o, tt, te, tm, kt, ke, z1, z2, z3, z4, z5, z6, z7⟩ := h
  refine ⟨dx, o, tt, te, tm, kt, ke, by rw [h1]; exact z1, by rw [h2]; exact z2, z3, fun a ha c hc => ?_, z5, fun a ha => ?_, by rw [h5]; exact z7⟩
  · rw [h2] at ha
    rw [h1] at hc
    rw [h3 a ha c hc]
    exact z4 a ha c hc
  · rw [h2] at ha
    rw [h4 a ha]
    exact z6 a ha
end
end WB
namespace WB
open PySem PySem.Spec PyProof.Rows L2
theorem lit_122 : ("z" : Str) = S [122] := by decide +kernel
end WB
namespace WB
open PySem PySem.Spec PyProof.Rows L2
section
variable {K : PySem.W.Frag} {vs : List V} {H H' : Hp} {Q : VK} {E : XK} {x q : Addr} {M : LM}
def TE1 (K : PySem.W.Frag) (H : Hp) (st : List (List Nat)) (kt : List (List Key × V)) (b : List Nat) (c : Nat) : Prop := ∃ (z : List Nat × Int) (p : Addr), valV kt [kS b, kS [c]] = some (.ref p) ∧ SqT K H p [vS z.1, .int z.2] ∧ z.1 ∈ st ∧ z.2.natAbs ≤ 2 ^ 200
def EE1 (K : PySem.W.Frag) (H : Hp) (st : List (List Nat)) (ke : List (Key × V)) (b : List Nat) : Prop := ∃ (z : List Nat × Int) (p : Addr), valV ke (kS b) = some (.ref p) ∧ SqT K H p [vS z.1, .int z.2] ∧ z.1 ∈ st ∧ z.2.natAbs ≤ 2 ^ 200
structure MSt (K : PySem.W.Frag) (H0 : Hp) (a po ss es : Addr) (st : List (List Nat)) (D : List Nat → Nat → Prop) (D2 : List Nat → Prop) (n : Nat) (H : Hp) : Prop where
  ex : Ex [a] H0 H
  pool : PoolAt H a
  po : H po = some (.lst (st.map vS))
  tb : ∃ kt, H ss = some (.dT kt) ∧ kt.length ≤ n ∧ ∀ b c, D b c → TE1 K H st kt b c
  en : ∃ ke, H es = some (.dK ke) ∧ ke.length ≤ n ∧ ∀ b, D2 b → EE1 K H st ke b
section
variable {H0 : Hp} {a po ss es : Addr} {st : List (List Nat)} {D : List Nat → Nat → Prop} {D2 : List Nat → Prop} {n : Nat}
theorem MSt.ex0 (e : Ex [] H H') (m : MSt K H0 a po ss es st D D2 n H) : MSt K H0 a po ss es st D D2 n H' := by
  obtain ⟨h1, h2, h3, ⟨kt, h4, h5, h6⟩, ⟨ke, h7, h8, h9⟩⟩ := m
  refine ⟨h1.trans e.wide, h2.ex e (by simp), e.get0 h3, ⟨kt, e.get0 h4, h5, fun b c d => ?_⟩, ⟨ke, e.get0 h7, h8, fun b d => ?_⟩⟩
  · obtain ⟨z, p, z1, z2, z3⟩ := h6 b c d
    exact ⟨z, p, z1, e.sqT (by simp) z2, z3⟩
  · obtain ⟨z, p, z1, z2, z3⟩ := h9 b d
    exact ⟨z, p, z1, e.sqT (by simp) z2, z3⟩
theorem MSt.weak {D' : List Nat → Nat → Prop} {D2' : List Nat → Prop} {n' : Nat} (m : MSt K H0 a po ss es st D D2 n H) (h1 : ∀ b c, D' b c → D b c) (h2 : ∀ b, D2' b → D2 b) (h3 : n ≤ n') : MSt K H0 a po ss es st D' D2' n' H := by
  obtain ⟨z1, z2, z3, ⟨kt, h4, h5, h6⟩, ⟨ke, h7, h8, h9⟩⟩ := m
  exact ⟨z1, z2, z3, ⟨kt, h4, by omega, fun b c d => h6 b c (h1 b c d)⟩, ⟨ke, h7, by omega, fun b d => h9 b (h2 b d)⟩⟩
end
end
end WB
namespace WB
open PySem PySem.Spec PyProof.Rows L2
end WB
namespace WB
open PySem PySem.Spec PyProof.Rows L2
section
variable {K : PySem.W.Frag} {H H' : Hp} {Q : VK} {E : XK} {a p q x : Addr} {M : LM} {σ : St}
theorem Dd.dp : ∀ (n : Nat) (v : V) (d : PyData), Dd K H n v d → Dp K H v d
  | 0, _, _, h => Scal.dp h
  | n + 1, v, d, h => by
    rcases h with h | ⟨a, xs, ds, rfl, rfl, h1, hn, hl, h2⟩ | ⟨a, xs, ds, rfl, rfl, h1, hn, hl, h2⟩
    · exact Scal.dp h
    · exact .tup h1 (dpAll_of xs ds hl fun i x e hx he => Dd.dp n x e (h2 i x e hx he))
    · exact .lst (SqL.of h1) (dpAll_of xs ds hl fun i x e hx he => Dd.dp n x e (h2 i x e hx he))
theorem Dd.shape : ∀ (n : Nat) (v : V) (d : PyData), Dd K H n v d → PyData.canLay0 d = true ∧ PyData.depth d ≤ n
  | 0, v, d, h => by
    obtain ⟨h1, h2⟩ := scal_shape h
    exact ⟨h1, by omega⟩
  | n + 1, v, d, h => by
    have parts : ∀ (xs : List V) (ds : List PyData), ds.length = xs.length → (∀ (i : Nat) x e, xs[i]? = some x → ds[i]? = some e → Dd K H n x e) → ∀ e ∈ ds, PyData.canLay0 e = true ∧ PyData.depth e ≤ n := fun xs ds hl h e he => by
      obtain ⟨i, hi⟩ := mem_get he
      have hlt : i < xs.length := by
        have := (List.getElem?_eq_some_iff.mp hi).1
        omega
      exact Dd.shape n xs[i] e (h i xs[i] e (List.getElem?_eq_getElem hlt) hi)
    rcases h with h | ⟨a, xs, ds, rfl, rfl, h1, hn, hl, h2⟩ | ⟨a, xs, ds, rfl, rfl, h1, hn, hl, h2⟩
    · obtain ⟨h1, h2⟩ := scal_shape h
      exact ⟨h1, by omega⟩
    · have pp := parts xs ds hl h2
      refine ⟨by rw [PyData.canLay0]; exact lay_all fun e he => (pp e he).1, ?_⟩
      rw [PyData.depth]
      have := dep_all (m := n) fun e he => (pp e he).2
      omega
    · have pp := parts xs ds hl h2
      refine ⟨by rw [PyData.canLay0]; exact lay_all fun e he => (pp e he).1, ?_⟩
      rw [PyData.depth]
      have := dep_all (m := n) fun e he => (pp e he).2
      omega
theorem Dd.shaped {n : Nat} {v : V} {d : PyData} (hn : n ≤ 20) (h : Dd K H n v d) : SeqAt.shaped d = true := by
  obtain ⟨h1, h2⟩ := Dd.shape n v d h
  unfold SeqAt.shaped
  exact Bool.and_eq_true_iff.mpr ⟨h1, decide_eq_true (by omega)⟩
theorem s_neDd {n m : Nat} {u v : V} {d : PyData} (hn : n ≤ 20) (h1 : Dd K H n u d) (h2 : Dd K H m v d) (k : Q (.bl false) H) : rNeD K u v H Q := by
  have hs := Dd.shaped hn h1
  refine ⟨_, _, Dd.dp n u _ h1, Dd.dp m v _ h2, hs, hs, ?_⟩
  rw [SeqAt.eqv_refl _ (Bool.and_eq_true_iff.mp hs).1]
  exact k
theorem s_eqDd {n m : Nat} {u v : V} {d : PyData} (hn : n ≤ 20) (h1 : Dd K H n u d) (h2 : Dd K H m v d) (k : Q (.bl true) H) : rEqD K u v H Q := by
  have hs := Dd.shaped hn h1
  refine ⟨_, _, Dd.dp n u _ h1, Dd.dp m v _ h2, hs, hs, ?_⟩
  rw [SeqAt.eqv_refl _ (Bool.and_eq_true_iff.mp hs).1]
  exact k
theorem Fr.ex0 {F : Addr → Prop} {n : Nat} {v : V} {d : PyData} (e : Ex [] H H') (h : Fr F H n v d) : Fr F H' n v d := Fr.mono (fun _ h => h) (fun _ _ _ h => e.get0 h) _ _ _ h
def scD : V → PyData
  | .bl b => .bool b
  | .int i => .int i
  | .str s => .str s
  | _ => .none
theorem sc_S {l : List Nat} (h : plain l) : Scal (vS l) (scD (vS l)) := .inr (.inr (.inr ⟨l, h, rfl, rfl⟩))
theorem dd_scal {n : Nat} {v : V} {d : PyData} (h : Scal v d) : Dd K H n v d := by
  cases n with
  | zero => exact h
  | succ n => exact .inl h
theorem dd_tup1 {n : Nat} {l : List V} (h : SqT K H p l) (hl : l.length ≤ 1000) (hs : ∀ v ∈ l, Scal v (scD v)) : Dd K H (n + 1) (.ref p) (.tuple (l.map scD)) := by
  refine .inr (.inl ⟨p, l, _, rfl, rfl, h, hl, by simp, fun i y e h1 h2 => ?_⟩)
  rw [List.getElem?_map, h1] at h2
  cases h2
  exact dd_scal (hs y (List.mem_of_getElem? h1))
theorem dd_strs {n : Nat} {ls : List (List Nat)} (h : SqT K H p (ls.map vS)) (hl : ls.length ≤ 1000) (hs : ∀ l ∈ ls, plain l) : Dd K H (n + 1) (.ref p) (.tuple ((ls.map vS).map scD)) :=
  dd_tup1 h (by simpa using hl) fun v hv => by
    obtain ⟨l, hl, rfl⟩ := List.mem_map.mp hv
    exact sc_S (hs l hl)
theorem TupsAt.take {ls : List (List V)} {i : Nat} {xs : List V} (h2 : Tups K H xs ls) (h : SqT K H q (xs.take i)) : TupsAt K H q (ls.take i) := by
  refine ⟨_, h, by simp [h2.1], fun j y l h3 h4 => ?_⟩
  by_cases hj : j < i
  · rw [List.getElem?_take_of_lt hj] at h3 h4
    exact h2.2 j y l h3 h4
  · rw [List.getElem?_take_eq_none (by omega)] at h3
    cases h3
end
end WB
namespace WB
open PySem PySem.Spec PyProof.Rows L2
end WB
namespace WB
open PySem PySem.Spec PyProof.Rows L2
structure LoopI (K : PySem.W.Frag) : Prop where
  ty : ∀ (H : Hp) (a dx : Addr) (fs : List (Str × V)), H a = some (.ins (He.ga K "Loop") dx fs) → TyX K H (.ref a) (.ref (He.ga K "Loop"))
  me : PySem.W.kitOne K (.ref (He.ga K "Loop")) (.ref (He.ga K "Loop")) = some true
end WB
namespace WB
open PySem PySem.Spec PyProof.Rows L2
theorem lit_114_111_119 : ("row" : Str) = S [114, 111, 119] := by decide +kernel
theorem lit_116_117_114_110 : ("turn" : Str) = S [116, 117, 114, 110] := by decide +kernel
theorem lit_98_101_103_105_110 : ("begin" : Str) = S [98, 101, 103, 105, 110] := by decide +kernel
end WB
namespace WB
open PySem PySem.Spec PyProof.Rows L2 ClX
def rListU (K : PySem.W.Frag) : List V → Hp → VK → Prop := fun xs H Q => rListS xs H Q ∨ ∃ p ys, xs = [.ref p] ∧ (SqL K H p ys ∨ SqT K H p ys) ∧ ∀ l, H l = none → Q (.ref l) (upd H l (.lst ys))
theorem call_listU {X : Cx} (hc : X.calm = true) : CallR X (.type "list") (rListU X.K) := by
  intro pins s σ H xs us Q I r h
  rcases h with h | h
  · exact call_listS hc pins s σ H xs us Q I r h
  · exact call_list_of pins s σ H xs us Q I r h
end WB
namespace WB
open PySem PySem.Spec PyProof.Rows L2
section
variable {K : PySem.W.Frag} {H H' : Hp} {Q : VK} {E : XK} {a p q x : Addr} {M : LM} {v : V} {xs : List V}
def SeqV (K : PySem.W.Frag) (H : Hp) (v : V) (xs : List V) : Prop := (∃ l : List Nat, v = vS l ∧ xs = l.map fun c => vS [c]) ∨ ∃ t, v = .ref t ∧ (SqL K H t xs ∨ SqT K H t xs)
theorem SeqV.ex0 (e : Ex [] H H') (h : SeqV K H v xs) : SeqV K H' v xs := by
  rcases h with h | ⟨t, rfl, h | h⟩
  · exact .inl h
  · exact .inr ⟨t, rfl, .inl (e.sqL (by simp) h)⟩
  · exact .inr ⟨t, rfl, .inr (e.sqT (by simp) h)⟩
theorem s_listU (h : SeqV K H v xs) (hl : xs.length ≤ 600) (k : ∀ p H2, H p = none → Ex [] H H2 → H2 p = some (.lst xs) → Q (.ref p) H2) : rListU K [v] H Q := by
  rcases h with ⟨l, rfl, rfl⟩ | ⟨t, rfl, h⟩
  · exact .inl ⟨l, rfl, Nat.le_trans (by simpa using hl) (by decide), k⟩
  · exact .inr ⟨t, xs, rfl, h, s_new k⟩
theorem s_lenU (h : SeqV K H v xs) (hl : xs.length ≤ 600) (k : Q (.int xs.length) H) : rLenV K [v] H Q := by
  rcases h with ⟨l, rfl, rfl⟩ | ⟨t, rfl, h | h⟩
  · rw [List.length_map] at hl k
    exact s_lenS (Nat.le_trans hl (by decide)) k
  · exact s_lenL h k
  · exact s_lenT h k
def sp_law_shufU (K : PySem.W.Frag) : Sp := fun vs H Q _ => ∃ (a : Addr) (v : V), vs = [.ref a, v] ∧ ∃ xs : List V, SeqV K H v xs ∧ xs.length ≤ 600 ∧ PoolAt H a ∧ ∀ (ys : List V) (p : Addr) (H' : Hp), ys.Perm xs → H p = none → Ex [a] H H' → PoolAt H' a → H' p = some (.lst ys) → Q (.ref p) H'
theorem u_shufU (h : SeqV K H v xs) (hl : xs.length ≤ 600) (hp : PoolAt H a) (k : ∀ (ys : List V) (p : Addr) (H' : Hp), ys.Perm xs → H p = none → Ex [a] H H' → PoolAt H' a → H' p = some (.lst ys) → Q (.ref p) H') : sp_law_shufU K ([.ref a, v] ++ []) H Q E := ⟨a, v, rfl, xs, h, hl, hp, k⟩
theorem LRowAt.exP (hp : PoolAt H a) (e : Ex [a] H H') (h : LRowAt K H p M) : LRowAt K H' p M := by
  obtain ⟨o, r, t, y, h1, h2, h3, h4, h5⟩ := h
  exact ⟨o, r, t, y, sqT_pool hp e h1, sqT_pool hp e h2, h3.exP hp e, h4.exP hp e, sqT_pool hp e h5⟩
theorem Tups.cons {x : V} {l : List V} {ls : List (List V)} (h0 : ∃ p, x = .ref p ∧ SqT K H p l) (h : Tups K H xs ls) : Tups K H (x :: xs) (l :: ls) := ⟨by simp [h.1], fun i y m h1 h2 => by
  cases i with
  | zero => cases h1; cases h2; exact h0
  | succ i => exact h.2 i y m h1 h2⟩
theorem Tups.un {x : V} {l : List V} {ls : List (List V)} (h : Tups K H (x :: xs) (l :: ls)) : (∃ p, x = .ref p ∧ SqT K H p l) ∧ Tups K H xs ls := ⟨h.2 0 x l rfl rfl, by simpa using h.1, fun i y m h1 h2 => h.2 (i + 1) y m h1 h2⟩
end
end WB
namespace WB
open PySem PySem.Spec PyProof.Rows L2
def metS (l m : List Nat) : List Nat := l.filter fun c => decide (c ∈ m)
def metP (ps qs : List (List Nat)) : List (List Nat) := ps.filter fun p => decide (p ∈ qs)
theorem good_met {l m : List Nat} (h : goodS l) (n : metS l m ≠ []) : goodS (metS l m) := by
  have hl := List.length_filter_le (fun c => decide (c ∈ m)) l
  refine ⟨isWord_mk (List.length_pos_iff.mpr n) (by have := h.2.1; unfold metS; omega) fun c hc => isWord_in h.1 c (List.mem_filter.mp hc).1, by have := h.2.1; unfold metS; omega, h.2.2.filter _⟩
theorem goodP_met {l m : List Nat} {ps qs : List (List Nat)} (h1 : goodP l ps) (h2 : goodP m qs) : goodP (metS l m) (metP ps qs) := by
  refine ⟨h1.1.filter _, fun p hp => ?_⟩
  obtain ⟨a, b⟩ := List.mem_filter.mp hp
  have b := of_decide_eq_true b
  exact ⟨(h1.2 p a).1, fun c hc => List.mem_filter.mpr ⟨(h1.2 p a).2 c hc, decide_eq_true ((h2.2 p b).2 c hc)⟩⟩
def sp_Kind_and (K : PySem.W.Frag) : Sp := fun vs H Q _ => ∃ a b : Addr, vs = [.ref a, .ref b] ∧ ∃ (l : List Nat) (ps : List (List Nat)) (m : List Nat) (qs : List (List Nat)), KindAt K H a l ps ∧ KindAt K H b m qs ∧ goodS l ∧ goodP l ps ∧ goodP m qs ∧ metS l m ≠ [] ∧ ps.length < 64 ∧
  ∀ x H', Ex [] H H' → KindAt K H' x (sgn (metS l m)) (srt (metP ps qs)) → Q (.ref x) H'
end WB
namespace WB
open PySem PySem.Spec PyProof.Rows L2
def sDict : List Nat := [100, 105, 99, 116]
theorem plain_dict : plain sDict := by intro c hc; revert c; decide
theorem plain_a : plain [97] := by intro c hc; revert c; decide
def Dx (K : PySem.W.Frag) (H : Hp) : Nat → V → PyData → Prop
  | 0, v, d => Scal v d
  | n + 1, v, d => Scal v d ∨ (∃ a xs ds, v = .ref a ∧ d = .tuple ds ∧ SqT K H a xs ∧ xs.length ≤ 1000 ∧ ds.length = xs.length ∧ ∀ (i : Nat) x e, xs[i]? = some x → ds[i]? = some e → Dx K H n x e) ∨
    (∃ a xs ds, v = .ref a ∧ d = .list ds ∧ H a = some (.lst xs) ∧ xs.length ≤ 1000 ∧ ds.length = xs.length ∧ ∀ (i : Nat) x e, xs[i]? = some x → ds[i]? = some e → Dx K H n x e) ∨
    (∃ a, v = .ref a ∧ d = .dict [] ∧ H a = some (.dK [])) ∨ (∃ a y e, v = .ref a ∧ d = .dict [(dS [97], e)] ∧ H a = some (.dK [(kA, y)]) ∧ Dd K H n y e)
def faceX : Nat → PyData → PyData
  | _, .bool b => .list [dS sTruth, .bool b]
  | n + 1, .tuple ds => .list (dS sTuple :: ds.map (faceX n))
  | n + 1, .list ds => .list (dS sList :: ds.map (faceX n))
  | n + 1, .dict es => .list (dS sDict :: es.map fun e => .list [faceX n e.1, faceX n e.2])
  | _, d => .list [dS sPlain, d]
theorem Fr.up {F : Addr → Prop} {H : Hp} : ∀ (n : Nat) (v : V) (d : PyData), Fr F H n v d → Fr F H (n + 1) v d
  | 0, _, _, h => .inl h
  | n + 1, v, d, h => by
    rcases h with h | ⟨a, xs, ds, rfl, rfl, f, h1, hl, h2⟩
    · exact .inl h
    · exact .inr ⟨a, xs, ds, rfl, rfl, f, h1, hl, fun i x e hx he => Fr.up n x e (h2 i x e hx he)⟩
theorem Fr.le {F : Addr → Prop} {H : Hp} {n m : Nat} {v : V} {d : PyData} (hm : n ≤ m) (h : Fr F H n v d) : Fr F H m v d := by
  induction hm with
  | refl => exact h
  | step _ ih => exact Fr.up _ _ _ ih
def sp_law_faceX (K : PySem.W.Frag) : Nat → Sp
  | 0 => fun _ _ _ _ => False
  | n + 1 => fun vs H Q _ => ∃ v, vs = [v] ∧ ∃ d, Dx K H n v d ∧ ∀ r H', H r = none → Ex [] H H' → Fr (fun a => H a = none) H' (2 * n + 1) (.ref r) (faceX n d) → Q (.ref r) H'
theorem Dd.dx {K : PySem.W.Frag} {H : Hp} : ∀ (n : Nat) (v : V) (d : PyData), Dd K H n v d → Dx K H n v d
  | 0, _, _, h => h
  | n + 1, v, d, h => by
    rcases h with h | ⟨a, xs, ds, rfl, rfl, h1, hn, hl, h2⟩ | ⟨a, xs, ds, rfl, rfl, h1, hn, hl, h2⟩
    · exact .inl h
    · exact .inr (.inl ⟨a, xs, ds, rfl, rfl, h1, hn, hl, fun i x e hx he => Dd.dx n x e (h2 i x e hx he)⟩)
    · exact .inr (.inr (.inl ⟨a, xs, ds, rfl, rfl, h1, hn, hl, fun i x e hx he => Dd.dx n x e (h2 i x e hx he)⟩))
theorem Dx.ex {K : PySem.W.Frag} {H H' : Hp} (e : Ex [] H H') : ∀ (n : Nat) (v : V) (d : PyData), Dx K H n v d → Dx K H' n v d
  | 0, _, _, h => h
  | n + 1, v, d, h => by
    rcases h with h | ⟨a, xs, ds, rfl, rfl, h1, hn, hl, h2⟩ | ⟨a, xs, ds, rfl, rfl, h1, hn, hl, h2⟩ | ⟨a, rfl, rfl, h1⟩ | ⟨a, y, e1, rfl, rfl, h1, h2⟩
    · exact .inl h
    · exact .inr (.inl ⟨a, xs, ds, rfl, rfl, e.sqT (by simp) h1, hn, hl, fun i x y hx hy => Dx.ex e n x y (h2 i x y hx hy)⟩)
    · exact .inr (.inr (.inl ⟨a, xs, ds, rfl, rfl, e.get0 h1, hn, hl, fun i x y hx hy => Dx.ex e n x y (h2 i x y hx hy)⟩))
    · exact .inr (.inr (.inr (.inl ⟨a, rfl, rfl, e.get0 h1⟩)))
    · exact .inr (.inr (.inr (.inr ⟨a, y, e1, rfl, rfl, e.get0 h1, Dd.ex e n _ _ h2⟩)))
theorem SqT.lock {K : PySem.W.Frag} {H : Hp} {a d : Addr} {xs : List V} {u f : HO} (hd : H d = some u) (hu : ∀ ys, u ≠ .tup ys) (hf : ∀ o ys, u ≠ .frz o (.tup ys)) (h : SqT K H a xs) : SqT K (upd H d f) a xs := by
  have ne : ∀ w, H a = some w → (∀ z, w = z → z = u → False) → upd H d f a = some w := fun w hw hz => by
    rw [upd_ne (fun z => ?_)]
    · exact hw
    · rw [z, hd] at hw
      exact hz w rfl (Option.some.inj hw).symm
  rcases h with (h | ⟨o, h⟩) | h
  · exact .inl (.inl (ne _ h fun z e1 e2 => hu _ (e2.symm.trans e1.symm)))
  · exact .inl (.inr ⟨o, ne _ h fun z e1 e2 => hf _ _ (e2.symm.trans e1.symm)⟩)
  · exact .inr h
theorem Dd.lock {K : PySem.W.Frag} {H : Hp} {d : Addr} {kvs : List (Key × V)} {f : HO} (hd : H d = some (.dK kvs)) : ∀ (n : Nat) (v : V) (e : PyData), Dd K H n v e → Dd K (upd H d f) n v e
  | 0, _, _, h => h
  | n + 1, v, e, h => by
    rcases h with h | ⟨a, xs, ds, rfl, rfl, h1, hn, hl, h2⟩ | ⟨a, xs, ds, rfl, rfl, h1, hn, hl, h2⟩
    · exact .inl h
    · exact .inr (.inl ⟨a, xs, ds, rfl, rfl, SqT.lock hd (fun _ z => by cases z) (fun _ _ z => by cases z) h1, hn, hl, fun i x y hx hy => Dd.lock hd n x y (h2 i x y hx hy)⟩)
    · refine .inr (.inr ⟨a, xs, ds, rfl, rfl, ?_, hn, hl, fun i x y hx hy => Dd.lock hd n x y (h2 i x y hx hy)⟩)
      rw [upd_ne (fun z => ?_)]
      · exact h1
      · rw [z, hd] at h1
        cases h1
theorem face_scalX {n : Nat} {v : V} {d : PyData} (h : Scal v d) : faceX n d = .list [dS (tagOf d), d] := by
  rcases h with ⟨rfl, rfl⟩ | ⟨b, rfl, rfl⟩ | ⟨i, rfl, rfl⟩ | ⟨l, hl, rfl, rfl⟩ <;> cases n <;> rfl
theorem tag_plain {v : V} {d : PyData} (h : Scal v d) : plain (tagOf d) := by
  rcases h with ⟨rfl, rfl⟩ | ⟨b, rfl, rfl⟩ | ⟨i, rfl, rfl⟩ | ⟨l, hl, rfl, rfl⟩
  · exact plain_tags.2.2.2
  · exact plain_tags.2.2.1
  · exact plain_tags.2.2.2
  · exact plain_tags.2.2.2
theorem lay_list {m : Nat} {ds : List PyData} (h : ∀ e ∈ ds, PyData.canLay0 e = true ∧ PyData.depth e ≤ m) : PyData.canLay0 (.list ds) = true ∧ PyData.depth (.list ds) ≤ m + 1 := by
  constructor
  · rw [PyData.canLay0]
    exact lay_all fun e he => (h e he).1
  · rw [PyData.depth]
    have := dep_all fun e he => (h e he).2
    omega
theorem Fr.shape {F : Addr → Prop} {H : Hp} : ∀ (n : Nat) (v : V) (d : PyData), Fr F H n v d → PyData.canLay0 d = true ∧ PyData.depth d ≤ n
  | 0, v, d, h => by
    obtain ⟨h1, h2⟩ := scal_shape h
    exact ⟨h1, by omega⟩
  | n + 1, v, d, h => by
    rcases h with h | ⟨a, xs, ds, rfl, rfl, f, h1, hl, h2⟩
    · obtain ⟨h1, h2⟩ := scal_shape h
      exact ⟨h1, by omega⟩
    · refine lay_list fun e he => ?_
      obtain ⟨i, hi⟩ := mem_get he
      have hlt : i < xs.length := by
        have := (List.getElem?_eq_some_iff.mp hi).1
        omega
      exact Fr.shape n _ _ (h2 i xs[i] e (List.getElem?_eq_getElem hlt) hi)
theorem Fr.shaped {F : Addr → Prop} {H : Hp} {n : Nat} {v : V} {d : PyData} (hn : n ≤ 20) (h : Fr F H n v d) : SeqAt.shaped d = true := by
  obtain ⟨h1, h2⟩ := Fr.shape n v d h
  unfold SeqAt.shaped
  exact Bool.and_eq_true_iff.mpr ⟨h1, decide_eq_true (by omega)⟩
section
variable {K : PySem.W.Frag} {H : Hp} {Q : VK} {E : XK}
theorem s_neFr {F F' : Addr → Prop} {n m : Nat} {x y : V} {d : PyData} (hn : n ≤ 20) (h1 : Fr F H n x d) (h2 : Fr F' H m y d) (k : Q (.bl false) H) : rNeD K x y H Q := by
  have hs := h1.shaped hn
  refine ⟨_, _, Fr.dp n x _ h1, Fr.dp m y _ h2, hs, hs, ?_⟩
  rw [SeqAt.eqv_refl _ (Bool.and_eq_true_iff.mp hs).1]
  exact k
theorem u_faceX {n : Nat} {v : V} {d : PyData} (h : Dx K H n v d) (k : ∀ r H', H r = none → Ex [] H H' → Fr (fun a => H a = none) H' (2 * n + 1) (.ref r) (faceX n d) → Q (.ref r) H') : sp_law_faceX K (n + 1) ([v] ++ []) H Q E := ⟨v, rfl, d, h, k⟩
theorem s_lockE {t : TE} {σ : St} {d : Addr} {kvs : List (Key × V)} (hd : H d = some (.dK kvs)) (k : ∀ od, t σ (upd H d (.frz od (.dK kvs))) fun v H' => H' d = some (.frz od (.dK kvs)) ∧ Q v (upd H' d (.dK kvs))) : tLockE t σ H Q := ⟨d, _, hd, True.intro, k⟩
theorem s_iKeys {te : TE} {σ : St} {R : It → Hp → Prop} (k : te σ H fun x H1 => ∃ d o, x = .ref d ∧ ((∃ kvs, H1 d = some (.frz o (.dK kvs)) ∧ R (Itk d o kvs) H1) ∨ ∃ kvs, H1 d = some (.frz o (.dT kvs)) ∧ R (Itkt d o kvs) H1)) : iKeys te σ H R := k
theorem lc_none {d : Addr} {o : Obj} {g : TG} {tt : TT} {te : TE} {vs : List Nat} {σ : St} (hd : H d = some (.frz o (.dK []))) (k : ∀ D, H D = none → Q (.ref D) (upd H D (.lst []))) : LcW (Itk d o []) g tt te vs σ H Q := by
  intro D hD
  refine ⟨fun i m H' => H' = upd H D (.lst []), ⟨0, rfl⟩, fun i m H' e => .inl ⟨⟨?_, Nat.zero_le _⟩, ?_⟩⟩
  · rw [e, upd_ne (ne_of_none hd hD)]
    exact hd
  · rw [e]
    exact k D hD
theorem lc_one {d : Addr} {o : Obj} {z : Key} {v1 : V} {te : TE} {j : Nat} {σ : St} (hd : H d = some (.frz o (.dK [(z, v1)])))
    (h : ∀ D, H D = none → ∀ C : VK, (∀ y H4, H4 D = some (.lst []) → H4 d = some (.frz o (.dK [(z, v1)])) → Q (.ref D) (upd H4 D (.lst [y])) → C y H4) → te ((wipe σ [j]).set j (some (kV z))) (upd H D (.lst [])) C) : LcW (Itk d o [(z, v1)]) (gName j) tYes te [j] σ H Q := by
  intro D hD
  have nd : d ≠ D := ne_of_none hd hD
  refine ⟨fun i m H' => (i = 0 ∧ m = 1 ∧ H' = upd H D (.lst [])) ∨ (i = 1 ∧ m = 0 ∧ H' d = some (.frz o (.dK [(z, v1)])) ∧ Q (.ref D) H'), ⟨1, .inl ⟨rfl, rfl, rfl⟩⟩, fun i m H' hw => ?_⟩
  rcases hw with ⟨rfl, rfl, rfl⟩ | ⟨rfl, rfl, h1, h2⟩
  · refine .inr ⟨⟨by rw [upd_ne nd]; exact hd, Nat.zero_lt_one⟩, fun H' => H' d = some (.frz o (.dK [(z, v1)])) ∧ Q (.ref D) H', fun H' h1 => ⟨0, by decide, .inr ⟨rfl, rfl, h1.1, h1.2⟩⟩, ?_⟩
    rintro x H2 ⟨rfl, k0, v0, hk, rfl⟩
    cases hk
    refine ⟨wipe1 _ _ _, ?_⟩
    refine s_yes ?_
    refine s_T rfl ?_
    refine h D hD _ fun y H4 h3 h4 h5 => ⟨[], h3, by decide, ?_, h5⟩
    rw [upd_ne nd]
    exact h4
  · exact .inl ⟨⟨h1, Nat.le_refl _⟩, h2⟩
theorem lock_ex {a : Addr} {u f : HO} {H' : Hp} (ha : H a = some u) (e : Ex [] (upd H a f) H') : Ex [] H (upd H' a u) := by
  intro b o nb hb
  by_cases h : b = a
  · subst h
    rw [ha] at hb
    rw [← hb, upd_same]
  · rw [upd_ne h]
    exact e b o nb (by rw [upd_ne h]; exact hb)
end
end WB
namespace WB
open PySem PySem.Spec PyProof.Rows L2 LamX
def tTryL (K : PySem.W.Frag) (l : List Cl) (tb : WX → TS) : TS := fun D σ H => tb (wList K D l) D σ H
theorem FunD_okC {P : Program} {w : World} {K : PySem.W.Frag} {mg : Str → Option Value} {base : Heap} {CX : CXT} {x qual : Str} {params : Arguments} {body : List Stmt} {scope : Scope} {dvs kws} {fd : FuncData} {N ps : List Str} {k : Nat} {sp : Sp} (F : FunD K x qual params body scope dvs kws (He.ga K x) fd) (S : FnScope N ps scope) (len : ∀ vs H Q E, sp vs H Q E → vs.length = ps.length)
    (hbody : ∀ (A : Around) (outer : List Env) (s : Shared) (H : Hp) (vs : List V) (Q : VK) (E : XK), Room k (A.deeper (envOfC qual scope s.heap.objs.size (He.ga K x) (.ref (He.cT K (x, none)).1))) → sp vs H Q E →
      ∃ t, PSs (cxOf CX P w K mg base N qual scope (He.ga K x) (.ref (He.cT K (x, none)).1) A outer s H E) body t ∧ t { nx := fun _ H' => Q .non H', rt := Q } (start N vs) H) : FnOk P w K mg base CX (k + 1) (He.ga K x) fd ps sp := by
  obtain ⟨oc, od, dV, kV, doc, pm, an, cdv, ct, osl, rfl, lk, hcd, _, _⟩ := F.ex
  obtain ⟨c, rfl⟩ := He.codeIn_ref hcd
  have e : He.codeOf K (x, none) = c := He.codeOf_eq (p := (x, none)) lk rfl
  refine fn_of lk hcd S len fun A outer s H vs Q E hr hsp => ?_
  have h := hbody A outer s H vs Q E
  unfold He.cT at h
  rw [e] at h
  exact h hr hsp
def Rsd (K : PySem.W.Frag) (H : Hp) (E : XK) (C f : Str) (v : V) : Prop := ∀ d H', H d = none → Ex [] H H' → H' d = some (.xd [(f, v)]) → E (.ref (He.ga K C)) (some d) H'
theorem rsd_of {K : PySem.W.Frag} {fI : Addr} {C f : Str} {E : XK} {H0 H : Hp} {v : V} (T : ExcK K (He.ga K C) fI f) (e : Ex [] H0 H) (h : Rsd K H0 E C f v) :
    [v].length ≤ 1000 ∧ ∀ a, H a = none → sp_exc K (He.ga K C) f (.ref a :: ([v] ++ [])) (upd H a (exo a (He.ga K C) none))
      (fun z H2 => z = .non ∧ ∃ (d : Addr) (fs : List (Str × V)), H2 a = some (exo a (He.ga K C) (some d)) ∧ H2 d = some (exd d fs) ∧ H d = none ∧ E (.ref (He.ga K C)) (some d) (upd (del H2 a) d (.xd fs))) (fun _ _ _ => False) :=
  rs_of T fun d hd => h d _ (e.free hd) (e.trans (Ex.new hd)) upd_same
section
variable {K : PySem.W.Frag} {H : Hp} {Q : VK} {E : XK}
theorem s_lam {T : List (Addr × Str)} {TT : (XK → Hp → VK → Prop) → Hp → VK → Prop} {t : XK → TE} {σ : St} (hT : Tabs T H) (k : ∀ H1, ExtN H H1 → Tabs T H1 → TT (fun E H' Q' => t E σ H' Q') H1 Q) : tLam T TT t σ H Q := ⟨hT, k⟩
theorem s_rs {C : Addr} {f : Str} {ta : TA} {D : Ends} {σ : St} (k : ta σ H fun vs H1 => vs.length ≤ 1000 ∧ ∀ a, H1 a = none → sp_exc K C f (.ref a :: (vs ++ [])) (upd H1 a (exo a C none))
  (fun v H2 => v = .non ∧ ∃ (d : Addr) (fs : List (Str × V)), H2 a = some (exo a C (some d)) ∧ H2 d = some (exd d fs) ∧ H1 d = none ∧ E (.ref C) (some d) (upd (del H2 a) d (.xd fs))) (fun _ _ _ => False)) : tRs K C f E ta D σ H := k
theorem s_tryL {l : List Cl} {tb : WX → TS} {D : Ends} {σ : St} (k : tb (wList K D l) D σ H) : tTryL K l tb D σ H := k
theorem s_act {f c' : Addr} {q : Str} {tl : XK → Hp → VK → Prop} {W : WX} {σ : St} (h0 : σ[0]? = some (some (.ref f))) (h1 : H c' = some (CodeO c' q)) {E1 : XK} {Q1 : VK} (hE : ∀ c d H', E1 c d H' → W c d σ H') (hQ : ∀ v H', Q1 v H' → Q v H') (h : tl E1 H Q1) : tAct f c' q tl W σ H Q := ⟨h0, h1, E1, Q1, hE, hQ, h⟩
theorem s_xf {a C : Addr} {cls : Value} {d : Option Addr} {f : Str} {te : TE} {σ : St} (k : te σ H fun x H1 => x = .ref a ∧ cls = .ref C ∧ ∃ (dd : Addr) (fs : List (Str × V)) (v : V), d = some dd ∧ H1 dd = some (.xd fs) ∧ fs.lookup f = some v ∧ Q v H1) : tXf a cls d C f te σ H Q := k
theorem ExtN.pool {H1 : Hp} {a : Addr} (e : ExtN H H1) (h : PoolAt H a) : PoolAt H1 a := by
  obtain ⟨x, y, z, h⟩ := h
  exact ⟨x, y, z, e _ _ h fun _ z => by cases z⟩
end
end WB
namespace WB
open PySem PySem.Spec PyProof.Rows L2 LamX
inductive F2 {α β : Type} (P : α → β → Prop) : List α → List β → Prop
  | nil : F2 P [] []
  | cons {x : α} {y : β} {xs : List α} {ys : List β} (h : P x y) (r : F2 P xs ys) : F2 P (x :: xs) (y :: ys)
def ExN (m : List Addr) (H H' : Hp) : Prop := ∀ b o, b ∉ m → H b = some o → (∀ ps, o ≠ .tbl ps) → H' b = some o
section
variable {K : PySem.W.Frag} {H H' H1 H2 : Hp} {Q : VK} {E : XK} {a q x : Addr} {m : List Addr} {M : LM} {T : List (Addr × Str)}
theorem ExN.refl : ExN m H H := fun _ _ _ h _ => h
theorem ExN.trans (e : ExN m H H1) (e2 : ExN m H1 H2) : ExN m H H2 := fun b o n h z => e2 b o n (e b o n h z) z
theorem ExN.of (e : Ex m H H') : ExN m H H' := fun b o n h _ => e b o n h
theorem ExN.of0 (e : Ex [] H H') : ExN m H H' := fun b o _ h _ => e b o (by simp) h
theorem ExN.ofT (e : ExtN H H') : ExN m H H' := fun b o _ h z => e b o h z
theorem sqL_exN {xs : List V} (e : ExN m H H') (n : a ∉ m) (h : SqL K H a xs) : SqL K H' a xs := by
  rcases h with (h | ⟨o, h⟩) | h
  · exact .inl (.inl (e _ _ n h fun _ z => by cases z))
  · exact .inl (.inr ⟨o, e _ _ n h fun _ z => by cases z⟩)
  · exact .inr h
theorem Tabs.ex0 (e : Ex [] H H') (h : Tabs T H) : Tabs T H' := h.ext fun b o hb => e b o (by simp) hb
theorem Tabs.exP (hp : PoolAt H a) (e : Ex [a] H H') (h : Tabs T H) : Tabs T H' := fun p hp' => by
  obtain ⟨ps, h1, h2, h3⟩ := h p hp'
  obtain ⟨x, y, z, hp⟩ := hp
  refine ⟨ps, e _ _ (fun w => ?_) h1, h2, fun pos cv hc => ?_⟩
  · rw [List.mem_singleton.mp w, hp] at h1
    cases h1
  · obtain ⟨c, e1, e2⟩ := h3 pos cv hc
    refine ⟨c, e1, e _ _ (fun w => ?_) e2⟩
    rw [List.mem_singleton.mp w, hp] at e2
    unfold CodeO at e2
    cases e2
structure ValD (K : PySem.W.Frag) (m : List Addr) (H : Hp) (v : V) (d : PyData) : Prop where
  dx : ∀ H', ExN m H H' → Dx K H' 5 v d
  str : (∃ l, v = vS l ∧ l.length ≤ 10000 ∧ plain l) ∨ ∃ n, n ≠ "str" ∧ ∀ H', ExN m H H' → Kd K H' v n
  int : (∃ i : Int, v = .int i ∧ i.natAbs ≤ 10 ^ 38) ∨ ∃ n, n ≠ "int" ∧ ∀ H', ExN m H H' → Kd K H' v n
theorem ValD.ex {v : V} {d : PyData} (e : ExN m H H') (h : ValD K m H v d) : ValD K m H' v d :=
  ⟨fun H2 e2 => h.dx H2 (e.trans e2), h.str.imp (fun z => z) fun ⟨n, h1, h2⟩ => ⟨n, h1, fun H2 e2 => h2 H2 (e.trans e2)⟩, h.int.imp (fun z => z) fun ⟨n, h1, h2⟩ => ⟨n, h1, fun H2 e2 => h2 H2 (e.trans e2)⟩⟩
theorem ValD.int_ (i : Int) (h : i.natAbs ≤ 10 ^ 38) : ValD K m H (.int i) (.int i) :=
  ⟨fun _ _ => .inl (.inr (.inr (.inl ⟨i, rfl, rfl⟩))), .inr ⟨"int", by decide, fun _ _ => .int⟩, .inl ⟨i, rfl, h⟩⟩
theorem ValD.str_ (l : List Nat) (hl : l.length ≤ 10000) (h : plain l) : ValD K m H (vS l) (dS l) :=
  ⟨fun _ _ => .inl (.inr (.inr (.inr ⟨l, h, rfl, rfl⟩))), .inl ⟨l, rfl, hl, h⟩, .inr ⟨"str", by decide, fun _ _ => .str⟩⟩
theorem ValD.of {v : V} {d : PyData} {n : String} (h1 : n ≠ "str") (h2 : n ≠ "int") (h : ∀ H', ExN m H H' → Dx K H' 5 v d ∧ Kd K H' v n) : ValD K m H v d :=
  ⟨fun H' e => (h H' e).1, .inr ⟨n, h1, fun H' e => (h H' e).2⟩, .inr ⟨n, h2, fun H' e => (h H' e).2⟩⟩
theorem dd_pair {n : Nat} {xs : List V} {ds : List PyData} (P : V → PyData → Prop) (h : F2 P xs ds) : ds.length = xs.length ∧ ∀ (i : Nat) x e, xs[i]? = some x → ds[i]? = some e → P x e := by
  induction h with
  | nil => exact ⟨rfl, fun i x e h => by cases i <;> cases h⟩
  | cons h1 h2 ih =>
    refine ⟨by simp [ih.1], fun i x e hx he => ?_⟩
    cases i with
    | zero => cases hx; cases he; exact h1
    | succ i => exact ih.2 i x e hx he
theorem dx_scal {n : Nat} {v : V} {d : PyData} (h : Scal v d) : Dx K H n v d := by
  cases n with
  | zero => exact h
  | succ n => exact .inl h
theorem dd_scl {n : Nat} {v : V} {d : PyData} (h : Scal v d) : Dd K H n v d := by
  cases n with
  | zero => exact h
  | succ n => exact .inl h
theorem dx_tup {n : Nat} {xs : List V} {ds : List PyData} (h : SqT K H a xs) (hl : xs.length ≤ 1000) (hd : F2 (Dx K H n) xs ds) : Dx K H (n + 1) (.ref a) (.tuple ds) := by
  obtain ⟨h1, h2⟩ := dd_pair (n := n) _ hd
  exact .inr (.inl ⟨a, xs, ds, rfl, rfl, h, hl, h1, h2⟩)
theorem dx_lst {n : Nat} {xs : List V} {ds : List PyData} (h : H a = some (.lst xs)) (hl : xs.length ≤ 1000) (hd : F2 (Dx K H n) xs ds) : Dx K H (n + 1) (.ref a) (.list ds) := by
  obtain ⟨h1, h2⟩ := dd_pair (n := n) _ hd
  exact .inr (.inr (.inl ⟨a, xs, ds, rfl, rfl, h, hl, h1, h2⟩))
theorem scS {l : List Nat} (h : plain l) : Scal (vS l) (dS l) := .inr (.inr (.inr ⟨l, h, rfl, rfl⟩))
theorem scI {i : Int} : Scal (.int i) (.int i) := .inr (.inr (.inl ⟨i, rfl, rfl⟩))
theorem OddAt.val {v : V} (h : OddAt m H v) : ∃ d, ValD K m H v d := by
  cases h with
  | non => exact ⟨.none, .of (n := "NoneType") (by decide) (by decide) fun _ _ => ⟨dx_scal (.inl ⟨rfl, rfl⟩), .non⟩⟩
  | bl b => exact ⟨.bool b, .of (n := "bool") (by decide) (by decide) fun _ _ => ⟨dx_scal (.inr (.inl ⟨b, rfl, rfl⟩)), .bl⟩⟩
  | int i h => exact ⟨_, .int_ i h⟩
  | str l h => exact ⟨_, .str_ l (by have := oddS_len h; omega) (oddS_plain h)⟩
  | l0 n h => exact ⟨.list [], .of (n := "list") (by decide) (by decide) fun H' e => have h' := e _ _ n h (fun _ z => by cases z); ⟨dx_lst h' (by simp) .nil, .lst h'⟩⟩
  | l1 n h => exact ⟨.list [dS [97]], .of (n := "list") (by decide) (by decide) fun H' e => have h' := e _ _ n h (fun _ z => by cases z); ⟨dx_lst h' (by simp) (.cons (dx_scal (scS plain_a)) .nil), .lst h'⟩⟩
  | d0 n h => exact ⟨.dict [], .of (n := "dict") (by decide) (by decide) fun H' e => have h' := e _ _ n h (fun _ z => by cases z); ⟨.inr (.inr (.inr (.inl ⟨_, rfl, rfl, h'⟩))), .dict h'⟩⟩
  | d1 n h => exact ⟨.dict [(dS [97], .int 1)], .of (n := "dict") (by decide) (by decide) fun H' e => have h' := e _ _ n h (fun _ z => by cases z); ⟨.inr (.inr (.inr (.inr ⟨_, _, _, rfl, rfl, h', dd_scl scI⟩))), .dict h'⟩⟩
  | t0 n h => exact ⟨.tuple [], .of (n := "tuple") (by decide) (by decide) fun H' e => have h' := SqT.of (K := K) (e _ _ n h (fun _ z => by cases z)); ⟨dx_tup h' (by simp) .nil, .tup h'⟩⟩
  | t1 n h => exact ⟨.tuple [dS [97]], .of (n := "tuple") (by decide) (by decide) fun H' e => have h' := SqT.of (K := K) (e _ _ n h (fun _ z => by cases z)); ⟨dx_tup h' (by simp) (.cons (dx_scal (scS plain_a)) .nil), .tup h'⟩⟩
  | t2 n h => exact ⟨.tuple [.int 0, .int 1], .of (n := "tuple") (by decide) (by decide) fun H' e => have h' := SqT.of (K := K) (e _ _ n h (fun _ z => by cases z)); ⟨dx_tup h' (by simp) (.cons (dx_scal scI) (.cons (dx_scal scI) .nil)), .tup h'⟩⟩
  | @t3 a b c d e n nb nc nd ne h hb hc hd he =>
    refine ⟨.tuple [.list [], .dict [(dS [97], .tuple [.int 1, .list []])]], .of (n := "tuple") (by decide) (by decide) fun H' ex => ?_⟩
    have h' := SqT.of (K := K) (ex _ _ n h (fun _ z => by cases z))
    have hb' := ex _ _ nb hb (fun _ z => by cases z)
    have hc' := ex _ _ nc hc (fun _ z => by cases z)
    have hd' := ex _ _ nd hd (fun _ z => by cases z)
    have he' := ex _ _ ne he (fun _ z => by cases z)
    refine ⟨dx_tup h' (by simp) (.cons (dx_lst (n := 3) hb' (by simp) .nil) (.cons (.inr (.inr (.inr (.inr ⟨c, _, _, rfl, rfl, hc', ?_⟩)))) .nil)), .tup h'⟩
    refine .inr (.inl ⟨d, _, _, rfl, rfl, SqT.of hd', by simp, rfl, fun i x y hx hy => ?_⟩)
    match i, hx, hy with
    | 0, hx, hy => cases hx; cases hy; exact dd_scl scI
    | 1, hx, hy => cases hx; cases hy; exact .inr (.inr ⟨e, [], [], rfl, rfl, he', by simp, rfl, fun i x y hx => by cases i <;> cases hx⟩)
end
end WB
namespace WB
open PySem PySem.Spec PyProof.Rows L2 LamX
section
variable {K : PySem.W.Frag} {H H' H1 H2 : Hp} {Q : VK} {E : XK} {T : List (Addr × Str)}
theorem Tabs.updL {D : Addr} {o : HO} (hD : H D = none ∨ ∃ l, H D = some (.lst l)) (h : Tabs T H) : Tabs T (upd H D o) := fun p hp => by
  obtain ⟨ps, h1, h2, h3⟩ := h p hp
  have ne : ∀ b u, H b = some u → (∀ l, u ≠ .lst l) → b ≠ D := fun b u hb hu z => by
    rw [z] at hb
    rcases hD with hD | ⟨l, hD⟩
    · rw [hD] at hb; cases hb
    · rw [hD] at hb
      exact hu l (Option.some.inj hb).symm
  refine ⟨ps, by rw [upd_ne (ne _ _ h1 fun _ z => by cases z)]; exact h1, h2, fun pos cv hc => ?_⟩
  obtain ⟨c, e1, e2⟩ := h3 pos cv hc
  exact ⟨c, e1, by rw [upd_ne (ne _ _ e2 fun _ z => by unfold CodeO at z; cases z)]; exact e2⟩
theorem ExN.drop {p : Addr} {H3 : Hp} (hp : H p = none) (e1 : Ex [] H H1) (e2 : ExN [p] H1 H3) : ExN [] H H3 := fun b o n h z => e2 b o (fun w => by rw [List.mem_singleton.mp w, hp] at h; cases h) (e1 b o n h) z
theorem lc_tabs {n j : Nat} {lo : Int} {te : TE} {σ : St} (hn : n ≤ 1000) (hT : Tabs T H)
    (h : ∀ (i : Nat) (H1 : Hp) (C : VK), i < n → ExN [] H H1 → Tabs T H1 → (∀ H2, ExN [] H1 H2 → Tabs T H2 → C (.bl true) H2) → te ((wipe σ [j]).set j (some (.int (lo + i)))) H1 C)
    (k : ∀ D H', H' D = some (.lst ((List.range n).map fun _ => .bl true)) → Q (.ref D) H') : LcW (Itr lo n) (gName j) tYes te [j] σ H Q := by
  intro D hD
  have xU : ∀ {H1 : Hp} {o : HO}, ExN [] H H1 → ExN [] H (upd H1 D o) := fun {H1 o} e b u nb hb z => by
    rw [upd_ne (ne_of_none hb hD)]
    exact e b u nb hb z
  refine lc_it walk_range (fun i H1 => ExN [] H H1 ∧ Tabs T H1 ∧ H1 D = some (.lst ((List.range i).map fun _ => .bl true))) ⟨xU ExN.refl, Tabs.updL (.inl hD) hT, upd_same⟩ (fun _ _ _ _ => trivial) ?_ ?_
  · rintro i x H1 H2 hi ⟨e, hT1, hd⟩ ⟨rfl, rfl⟩
    refine ⟨wipe1 _ _ _, ?_⟩
    refine s_yes ?_
    refine s_T rfl ?_
    refine h i H2 _ hi e hT1 fun H5 e5 hT5 => ?_
    have hd5 : H5 D = some (.lst ((List.range i).map fun _ => .bl true)) := e5 D _ (by simp) hd fun _ z => by cases z
    refine ⟨_, hd5, by simp; exact Nat.lt_of_lt_of_le hi (Nat.le_trans hn (by decide)), xU (e.trans e5), Tabs.updL (.inr ⟨_, hd5⟩) hT5, ?_⟩
    rw [upd_same, List.range_succ, List.map_append]
    rfl
  · rintro H1 ⟨e, hT1, hd⟩
    exact k D H1 hd
end
end WB
namespace GQ
open PySem PySem.SeqAt
open AutoSeq1 (wpAny_loadPart')
open MeetsSeq MeetsSeq2 MeetsSeq3 SeqRoads2
section
variable {prog : Program} {w : World} {A : Around} {R : Result → Shared → Prop}
theorem ne_loopG (l b : Addr) (N : Nat) (I : Nat → Shared → Prop) (hl : ListI prog w A (fun e s' => R (.error e) s') l b N I)
    (fin : ∀ s, I N s → R (.ok (.ret (.bool false))) s) (k : Nat) :
    ∀ i : Nat, N - i = k → i ≤ N → ∀ s, I i s →
      wpAny (model prog w) A.in1 (Builtin.«list.__eq__.loop» ⟨[.ref l, .ref b, rawInt i, rawInt 3], []⟩) (FinOf prog w A R) (fun e s' => R (.error e) s') s := by
  induction k with
  | zero =>
    intro i hk hi s h
    obtain ⟨items, items2, n, n2, hl1, hb1, hs1, hs2, _⟩ := hl _ _ h
    have hi' : i = N := by omega
    have hR : R (.ok (.ret (.bool false))) s := fin s (hi' ▸ h)
    obtain ⟨hp, g, d, tk, os⟩ := s
    wp_walk using wpAny_loadPart' hl1, wpAny_loadPart' hb1
    have hi1 : items[((i : Nat) : Int).toNat]? = none := by simp; omega
    have hi2 : items2[((i : Nat) : Int).toNat]? = none := by simp; omega
    rw [hi1, hi2]
    wp_walk using wpAny_loadPart' hl1, wpAny_loadPart' hb1
    show R (.ok (.ret (.bool (items.size != items2.size)))) _
    rw [hs1, hs2]
    simpa using hR
  | succ k ih =>
    intro i hk hi s h
    obtain ⟨items, items2, n, n2, hl1, hb1, hs1, hs2, turn⟩ := hl _ _ h
    have hlt : i < items.size := by omega
    have hlt2 : i < items2.size := by omega
    have ht := turn hlt hlt2
    obtain ⟨hp, g, d, tk, os⟩ := s
    wp_walk using wpAny_loadPart' hl1, wpAny_loadPart' hb1
    have hi1 : items[((i : Nat) : Int).toNat]? = some items[i] := by simp [hlt]
    have hi2 : items2[((i : Nat) : Int).toNat]? = some items2[i] := by simp [hlt2]
    have hc : ((i : Int) + 1) = ((i + 1 : Nat) : Int) := by omega
    rw [hi1, hi2]
    refine wpAny_bind (wpAny_mono ht (fun r s2 h2 => ?_) fun _ _ x => x)
    obtain ⟨hr, h2⟩ := h2
    subst hr
    have hrec := ih (i + 1) (by omega) (by omega) s2 h2
    obtain ⟨hp2, g2, d2, tk2, os2⟩ := s2
    wp_walk
    rw [hc]
    exact ⟨plainId_quiet plain_eq_loop _, codeAny_builtin entry_eq_loop (by
      rw [Around.under_plainId plain_eq_loop _]
      exact hrec)⟩
theorem list_neG (l b : Addr) (N : Nat) (I : Nat → Shared → Prop) (hl : ListI prog w A (fun e s' => R (.error e) s') l b N I)
    (fin : ∀ s, I N s → R (.ok (.ret (.bool false))) s) {s : Shared} (h : I 0 s) :
    wpAny (model prog w) A.in1 (Builtin.«list.__ne__» ⟨[.ref l, .ref b], []⟩) (FinOf prog w A R) (fun e s' => R (.error e) s') s := by
  obtain ⟨items, items2, n, n2, hl1, hb1, hs1, hs2, _⟩ := hl _ _ h
  have hrec := ne_loopG (A := A) (R := R) l b N I hl fin _ 0 rfl (Nat.zero_le _) s h
  obtain ⟨hp, g, d, tk, os⟩ := s
  have f3 := AutoSeq1.sub_list_list
  have hne : ¬ (items.size != items2.size) = true := by simp [hs1, hs2]
  wp_walk using wpAny_loadPart' hl1, wpAny_loadPart' hb1
  exact ⟨plainId_quiet plain_eq_loop _, codeAny_builtin entry_eq_loop (by
    rw [Around.under_plainId plain_eq_loop _]
    exact hrec)⟩
end
section
variable {prog : Program} {w : World} {A : Around} {E : Value → Shared → Prop} {s : Shared}
theorem rn_listG {l b : Addr} {N : Nat} {Q : Value → Shared → Prop} (hu : A.units < cLine) (I : Nat → Shared → Prop) (hl : ListI prog w A E l b N I)
    (fin : ∀ s, I N s → Q (.bool false) s) (h : I 0 s) : wpAny (model prog w) A (richCompare .NotEq (.ref l) (.ref b)) Q E s := by
  obtain ⟨items, items2, n, n2, hl1, hb1, _, _, _⟩ := hl _ _ h
  refine wpAny_richCompare_same_room (op := .NotEq) ⟨_, hl1, rfl⟩ ⟨_, hb1, rfl⟩ F.slot_list_ne (call_here F.slot_list_ne ⟨_, hl1, rfl⟩ F.entry_list_ne (F.args_list_ne_2 _ _) ?_) hu
  exact list_neG (R := wants (fun v s' => v ≠ .notImplemented ∧ Q v s') E) l b N I hl (fun s' q => ⟨(fun x => nomatch x), fin s' q⟩) h
end
end GQ
namespace WB
open PySem PySem.Spec PyProof.Rows L2
section
variable {X : Cx} {n m : Nat} {D D' : Eqv}
def RnG (X : Cx) (n : Nat) (D : Eqv) : Prop :=
  ∀ (A : Around) (pins : List (Addr × Obj)) (s : Shared) (σ : St) (H : Hp) (x y : V) (u v : Value), Sub X n A → Inv X pins σ H s → RelV x u → RelV y v → D x y H →
    wpAny (model X.prog X.w) A (richCompare .NotEq u v) (fun r s' => r = .bool false ∧ ∃ H', Inv X pins σ H' s' ∧ Ext H H') X.xe s
theorem rnG_list (hD : Mon D) (h : EqG X n D) : RnG X (n + 1) (DList D) := by
  intro A pins s σ H x y u v sb I rx ry d
  obtain ⟨a, b, xs, ys, rfl, rfl, ha, hb, p⟩ := d
  cases rx
  cases ry
  refine GQ.rn_listG (N := xs.length) sb.room.units0 (fun _ s' => L2.LoopI X pins σ H s') (fun i s' q => ?_) (fun s' q => ⟨rfl, q⟩) ⟨H, I, Ext.rfl'⟩
  obtain ⟨H1, I1, e1⟩ := id q
  obtain ⟨z, its, k, r, e⟩ := I1.hok a _ (e1 _ _ ha)
  obtain ⟨z2, its2, k2, r2, e2⟩ := I1.hok b _ (e1 _ _ hb)
  refine ⟨its.toArray, its2.toArray, k, k2, e, e2, by rw [List.size_toArray, ← r.length], by rw [List.size_toArray, ← r2.length, ← p.1], fun h1 h2 => ?_⟩
  exact turnG hD h sb p r r2 i h1 h2 s' q
def DSame : Eqv := fun x y _ => ∃ a : Addr, x = .ref a ∧ y = .ref a
theorem mon_same : Mon DSame := fun _ _ _ _ _ d => d
theorem eqG_same : EqG X n DSame := by
  intro A pins s σ H x y u v sb I rx ry d
  obtain ⟨a, rfl, rfl⟩ := d
  cases rx
  cases ry
  exact SeqAt.EqAt.same (A := A) (s := s) (.ref a) X.prog X.w X.xe _ ⟨rfl, H, I, Ext.rfl'⟩
def rNeG (D : Eqv) : R2 := fun x y H Q => D x y H ∧ ∀ H', Ext H H' → Q (.bl false) H'
theorem op_neG (h : RnG X n D) (hr : Room n X.A) : OpR X (compareOp .NotEq) (rNeG D) := by
  intro pins s σ H x y v u Q I rx ry hq
  obtain ⟨d, q⟩ := hq
  show wpAny (model X.prog X.w) X.A (richCompare .NotEq v u) (EP X pins σ Q) X.xe s
  refine wpAny_mono (h X.A pins s σ H x y v u ⟨hr, rfl⟩ I rx ry d) (fun r s' z => ?_) fun _ _ x => x
  obtain ⟨hr', H', I', e⟩ := z
  subst hr'
  exact ⟨.bl false, H', I', rfl, q H' e⟩
theorem OpR.or {o : Value → Value → Sem Value} {r1 r2 : R2} (h1 : OpR X o r1) (h2 : OpR X o r2) : OpR X o (fun x y H Q => r1 x y H Q ∨ r2 x y H Q) := by
  intro pins s σ H x y v u Q I rx ry hq
  rcases hq with hq | hq
  · exact h1 pins s σ H x y v u Q I rx ry hq
  · exact h2 pins s σ H x y v u Q I rx ry hq
def DSm1 : Eqv := fun x y H => DFlat x y H ∨ DSame x y H
def DSm2 : Eqv := fun x y H => DSm1 x y H ∨ DList DSm1 x y H
theorem mon_sm1 : Mon DSm1 := mon_flat.or mon_same
theorem mon_sm2 : Mon DSm2 := mon_sm1.or (mon_list mon_sm1)
theorem eqG_sm1 : EqG X 0 DSm1 := eqG_flat.or eqG_same
theorem eqG_sm2 : EqG X 1 DSm2 := (eqG_sm1.mono (by omega)).or (eqG_list mon_sm1 eqG_sm1)
def rNeS (K : PySem.W.Frag) : R2 := fun x y H Q => rNeD K x y H Q ∨ rNeG (DList DSm2) x y H Q
theorem op_neS (hu : X.A.units + 64 < cLine) (hr : Room 2 X.A) : OpR X (compareOp .NotEq) (rNeS X.K) := (op_neD hu).or (op_neG (rnG_list mon_sm2 eqG_sm2) hr)
end
end WB
namespace WB
open PySem PySem.Spec PyProof.Rows L2 LamX
def s12Told : List Nat := [116, 111, 108, 100]
def s12Ring : List Nat := [114, 105, 110, 103]
def s12Kind : List Nat := [107, 105, 110, 100]
theorem plain_12 : plain s12Told ∧ plain s12Ring ∧ plain s12Kind := by
  refine ⟨?_, ?_, ?_⟩ <;> (intro c hc; revert c; decide)
structure Own12 (K : PySem.W.Frag) : Prop where
  kk : KindK K
  rk : RingK K
  kt : ∀ n ∈ (["tuple", "list", "dict", "bool"] : List String), PySem.W.kitOne K (.ref (He.ga K "Ring")) (.type n) = some false
abbrev Th12 := Sum PyData Addr
def ThAt (K : PySem.W.Frag) (m : List Addr) (H : Hp) (v : V) : Th12 → Prop
  | .inl d => ValD K m H v d
  | .inr a => v = .ref a ∧ a ∉ m ∧ ∃ w, RingAt K H a w
def fc12 : Th12 → Th12
  | .inl d => .inl (faceX 5 d)
  | .inr a => .inr a
def FcAt (H : Hp) (r : Addr) : Th12 → Prop
  | .inl d => Fr (fun _ => True) H 11 (.ref r) d
  | .inr a => H r = some (.lst [vS sPlain, .ref a])
section
variable {K : PySem.W.Frag} {H H' : Hp} {Q : VK} {E : XK} {a p r : Addr} {m : List Addr} {v : V} {s : Th12}
theorem FcAt.ex0 (e : Ex [] H H') (h : FcAt H r s) : FcAt H' r s := by
  cases s with
  | inl d => exact Fr.mono (fun _ h => h) (fun a zs _ ha => e.get0 ha) _ _ _ h
  | inr a => exact e.get0 h
theorem FcAt.exN (e : ExN [] H H') (h : FcAt H r s) : FcAt H' r s := by
  cases s with
  | inl d => exact Fr.mono (fun _ h => h) (fun a zs _ ha => e _ _ (by simp) ha fun _ z => by cases z) _ _ _ h
  | inr a => exact e _ _ (by simp) h fun _ z => by cases z
theorem RingAt.exN {w : List Nat} (e : ExN m H H') (n : a ∉ m) (h : RingAt K H a w) : RingAt K H' a w := by
  obtain ⟨dx, h⟩ := h
  exact ⟨dx, e _ _ n h fun _ z => by cases z⟩
theorem ThAt.ex (e : ExN m H H') (h : ThAt K m H v s) : ThAt K m H' v s := by
  cases s with
  | inl d => exact ValD.ex e h
  | inr a =>
    obtain ⟨h1, n, w, h2⟩ := h
    exact ⟨h1, n, w, h2.exN e n⟩
theorem ThAt.nil (h : ThAt K m H v s) : ThAt K [] H v s := by
  cases s with
  | inl d => exact ⟨fun H' e => h.dx H' fun b o _ => e b o (by simp), h.str.imp (fun z => z) fun ⟨n, h1, h2⟩ => ⟨n, h1, fun H' e => h2 H' fun b o _ => e b o (by simp)⟩, h.int.imp (fun z => z) fun ⟨n, h1, h2⟩ => ⟨n, h1, fun H' e => h2 H' fun b o _ => e b o (by simp)⟩⟩
  | inr a => exact ⟨h.1, by simp, h.2.2⟩
theorem ThAt.kd (F : Own12 K) (h : ThAt K m H v s) : (∃ n, Kd K H v n) ∨ ∃ b w, v = .ref b ∧ RingAt K H b w := by
  cases s with
  | inl d =>
    rcases h.str with ⟨l, rfl, _⟩ | ⟨n, _, hk⟩
    · exact .inl ⟨_, .str⟩
    · exact .inl ⟨n, hk H ExN.refl⟩
  | inr a =>
    obtain ⟨h1, _, w, h2⟩ := h
    exact .inr ⟨a, w, h1, h2⟩
end
def sp_law_faceR (K : PySem.W.Frag) : Nat → Sp
  | 0 => fun _ _ _ _ => False
  | n + 1 => fun vs H Q _ => ∃ v, vs = [v] ∧ ((∃ d, Dx K H n v d ∧ ∀ r H', H r = none → Ex [] H H' → Fr (fun a => H a = none) H' (2 * n + 1) (.ref r) (faceX n d) → Q (.ref r) H') ∨ ∃ a w, v = .ref a ∧ RingAt K H a w ∧ ∀ r H', H r = none → Ex [] H H' → H' r = some (.lst [vS sPlain, .ref a]) → Q (.ref r) H')
theorem faceR_of {K : PySem.W.Frag} {n : Nat} {vs : List V} {H : Hp} {Q : VK} {E : XK} : sp_law_faceX K (n + 1) vs H Q E → sp_law_faceR K (n + 1) vs H Q E := fun ⟨v, e, d, hd, k⟩ => ⟨v, e, .inl ⟨d, hd, k⟩⟩
theorem u_faceR {K : PySem.W.Frag} {H : Hp} {Q : VK} {E : XK} {m : List Addr} {v : V} {s : Th12} (h : ThAt K m H v s) (k : ∀ r H', H r = none → Ex [] H H' → FcAt H' r (fc12 s) → Q (.ref r) H') : sp_law_faceR K 6 ([v] ++ []) H Q E := by
  cases s with
  | inl d => exact faceR_of (u_faceX (h.dx H ExN.refl) fun r H' n e f => k r H' n e (Fr.mono (fun _ _ => True.intro) (fun a zs _ ha => ha) _ _ _ f))
  | inr a =>
    obtain ⟨rfl, _, w, h2⟩ := h
    exact ⟨_, rfl, .inr ⟨a, w, rfl, h2, fun r H' n e hr => k r H' n e hr⟩⟩
def sp_check_kind (K : PySem.W.Frag) : Sp := fun vs H Q _ => ∃ x : Addr, vs = [.ref x] ∧ ∃ l ps, KindAt K H x l ps ∧ Q .non H
def spr_check_kind (K : PySem.W.Frag) : Sp := fun vs H Q E => ∃ v, vs = [v] ∧ ∃ s, ThAt K [] H v s ∧ Rsd K H E "NotAKind" "given" v
def spx_check_kind (K : PySem.W.Frag) : Sp := fun vs H Q E => sp_check_kind K vs H Q E ∨ spr_check_kind K vs H Q E
def RsdN (K : PySem.W.Frag) (H : Hp) (E : XK) (C : Str) : Prop := ∀ H', Ex [] H H' → E (.ref (He.ga K C)) none H'
def spr_Kind_and (K : PySem.W.Frag) : Sp := fun vs H Q E => ∃ (a : Addr) (v : V), vs = [.ref a, v] ∧ ∃ l ps, KindAt K H a l ps ∧ goodS l ∧ ((∃ s, ThAt K [] H v s ∧ Rsd K H E "NotAKind" "given" v) ∨ ∃ b m qs, v = .ref b ∧ KindAt K H b m qs ∧ metS l m = [] ∧ RsdN K H E "NoRing")
def spx_Kind_and (K : PySem.W.Frag) : Sp := fun vs H Q E => sp_Kind_and K vs H Q E ∨ spr_Kind_and K vs H Q E
inductive R12 where
  | told (l : List Nat) (ps : List (List Nat))
  | ring
  | kind (s : Th12)
def ResAt12 (K : PySem.W.Frag) (H : Hp) (p : Addr) : R12 → Prop
  | .told l ps => ∃ x, H p = some (.lst [vS s12Told, .ref x]) ∧ KindAt K H x l ps
  | .ring => H p = some (.lst [vS s12Ring, .non])
  | .kind s => ∃ r, H p = some (.lst [vS s12Kind, .ref r]) ∧ FcAt H r s
def Heard12 (K : PySem.W.Frag) (Q : VK) : XK := fun cls dd H => (cls = .ref (He.ga K "NotAKind") ∧ ∃ d v s, dd = some d ∧ H d = some (.xd [("given", v)]) ∧ ThAt K [] H v s ∧ ∀ p H', Ex [] H H' → ResAt12 K H' p (.kind (fc12 s)) → Q (.ref p) H') ∨
  (cls = .ref (He.ga K "NoRing") ∧ ∀ p H', Ex [] H H' → ResAt12 K H' p .ring → Q (.ref p) H')
def TT_law_heard12 (K : PySem.W.Frag) : (XK → Hp → VK → Prop) → Hp → VK → Prop := fun tl H Q => tl (Heard12 K Q) H fun v H' => ∃ y l ps, v = .ref y ∧ KindAt K H' y l ps ∧ ∀ p H2, Ex [] H' H2 → ResAt12 K H2 p (.told l ps) → Q (.ref p) H2
def tabs12 (K : PySem.W.Frag) : List (Addr × Str) := tabsOf K ["_law_right"]
def sp_law_couplesU (K : PySem.W.Frag) : Sp := fun vs H Q _ => ∃ (a : Addr) (s : List Nat), vs = [.ref a, vS s] ∧ goodS s ∧ PoolAt H a ∧ ∀ (ps : List (List Nat)) (p : Addr) (H' : Hp), goodP s ps → ps.length ≤ 16 → H p = none → Ex [a] H H' → PoolAt H' a → H' p = some (.lst (ps.map vS)) → Q (.ref p) H'
def sp_law_along12 (K : PySem.W.Frag) : Sp := fun vs H Q _ => ∃ (a : Addr) (s : List Nat) (p : Addr), vs = [.ref a, vS s, .ref p] ∧ ∃ ps : List (List Nat), goodS s ∧ (∀ q ∈ ps, q.length = 2 ∧ ∀ c ∈ q, c ∈ LET) ∧ ps.length ≤ 40 ∧ p ≠ a ∧ H p = some (.lst (ps.map vS)) ∧ PoolAt H a ∧ ∀ (w : List Nat) (H' : Hp), 1 ≤ w.length → w.length ≤ 12 → (∀ c ∈ w, c ∈ LET) → Ex [a] H H' → PoolAt H' a → Q (vS w) H'
def sp_law_both12 (K : PySem.W.Frag) : Sp := fun vs H Q _ => ∃ (s t : List Nat) (p q : Addr), vs = [vS s, vS t, .ref p, .ref q] ∧ ∃ ps qs : List (List Nat), goodS s ∧ goodS t ∧ goodP s ps ∧ ps.length < 64 ∧ qs.length < 64 ∧ H p = some (.lst (ps.map vS)) ∧ H q = some (.lst (qs.map vS)) ∧
  ∀ (y o : Addr) (H' : Hp), H y = none → Ex [] H H' → H' y = some (.tup [vS (metS (sgn s) t), .ref o]) → H' o = some (.tup ((metP (srt ps) qs).map vS)) → Q (.ref y) H'
def sp_law_right12 (K : PySem.W.Frag) : Sp := fun vs H Q _ => ∃ a : Addr, vs = [.ref a] ∧ PoolAt H a ∧ Tabs (tabs12 K) H ∧ ∀ H', ExN [a] H H' → Tabs (tabs12 K) H' → Q (.bl true) H'
def sp_law12 (K : PySem.W.Frag) : Sp := fun vs H Q _ => ∃ (a : Addr) (ns : List Int), vs = [.ref a] ∧ SqL K H a (ns.map V.int) ∧ ns.length ≤ 63 ∧ Tabs (tabs12 K) H ∧ ∀ H', Q (.bl true) H'
def SomeAt (H : Hp) (a p : Addr) (ps : List (List Nat)) : Prop := p ≠ a ∧ H p = some (.lst (ps.map vS))
theorem SomeAt.ex {H H' : Hp} {a p : Addr} {ps : List (List Nat)} {m : List Addr} (e : Ex m H H') (n : p ∉ m) (h : SomeAt H a p ps) : SomeAt H' a p ps := ⟨h.1, e p _ n h.2⟩
end WB
namespace WB
open PySem PySem.Spec PyProof.Rows L2
local macro_rules | `(tactic| walk_at "lit") => `(tactic| first | exact lit_abc | exact lit_empty)
local macro_rules | `(tactic| walk_at "nm") => `(tactic| focus first | exact List.not_mem_nil | (simp only [List.mem_singleton]; first | assumption | (exact Ne.symm (by assumption)) | (intro hz; subst hz; simp_all; done)))
local macro_rules | `(tactic| walk_at "hp") => `(tactic| first | assumption | (apply Ex.get0 (by assumption); walk_at "hp") | (apply Ex.get (by assumption); (walk_at "nm"); (walk_at "hp")))
local macro_rules | `(tactic| walk_at "sq") => `(tactic| first | assumption | (apply SqL.of; walk_at "hp") | (apply Ex.sqL (by assumption); (walk_at "nm"); (walk_at "sq")))
local macro_rules | `(tactic| walk_at "sqt") => `(tactic| first | assumption | (apply SqT.of; walk_at "hp") | (apply Ex.sqT (by assumption); (walk_at "nm"); (walk_at "sqt")))
local macro_rules | `(tactic| walk_at "sz") => `(tactic| focus ((with_reducible refine Nat.le_trans (m := 100000) ?_ (by decide)); first | omega | (simp; done) | (simp; omega)))
local macro_rules | `(tactic| walk_at "mul") => `(tactic| first | exact Or.inr ⟨by omega, by omega⟩ | exact Or.inl ⟨by omega, by omega⟩)
local macro_rules | `(tactic| walk_at "pool") => `(tactic| first | assumption | (apply PoolAt.ex (by assumption); (walk_at "nm"); (walk_at "pool")))
local macro_rules | `(tactic| walk_at "ring") => `(tactic| first | assumption | (apply RingAt.ex (by assumption); (walk_at "nm"); (walk_at "ring")))
local macro_rules | `(tactic| walk_at "st") => `(tactic| first
  | with_reducible refine s_seq ?_
  | with_reducible refine s_asg ?_
  | with_reducible refine s_gName ?_
  | with_reducible refine s_ret ?_
  | with_reducible refine s_ifS ?_
  | with_reducible refine s_next ?_
  | with_reducible refine s_op ?_
  | ((with_reducible apply s_var); exact rfl)
  | ((with_reducible apply s_cS); (walk_at "lit"))
  | with_reducible refine s_c ?_
  | with_reducible refine s_cb ?_
  | with_reducible refine s_cons ?_
  | with_reducible refine s_nil ?_
  | with_reducible refine s_un ?_
  | with_reducible refine s_call ?_
  | with_reducible refine s_test ?_
  | with_reducible refine s_tB ?_
  | with_reducible refine s_blQ ?_
  | with_reducible refine s_not ?_
  | with_reducible refine s_and ?_
  | with_reducible refine s_or ?_
  | with_reducible refine s_andV ?_
  | with_reducible refine s_orV ?_
  | with_reducible refine s_notV ?_
  | with_reducible refine s_ifE ?_
  | with_reducible refine s_chain ?_
  | ((with_reducible refine s_T ?_ ?_); (with_reducible exact rfl))
  | with_reducible refine s_nT ?_
  | with_reducible refine s_nF ?_
  | ((with_reducible refine s_F ?_ ?_); (with_reducible exact rfl))
  | ((with_reducible refine s_T ?_ ?_); assumption)
  | ((with_reducible refine s_F ?_ ?_); assumption)
  | ((with_reducible refine s_nB ?_ ?_); assumption)
  | ((with_reducible refine s_nA ?_ ?_); assumption)
  | ((with_reducible refine s_Td ?_ ?_); omega)
  | ((with_reducible refine s_Fd ?_ ?_); omega)
  | ((with_reducible refine s_nTd ?_ ?_); omega)
  | ((with_reducible refine s_nFd ?_ ?_); omega)
  | with_reducible refine s_sfld ?_
  | with_reducible refine s_addI ?_
  | with_reducible refine s_subI ?_
  | ((with_reducible refine s_mulI ?_ ?_); (walk_at "mul"))
  | ((with_reducible refine s_divI ?_ ?_); exact ⟨by omega, by omega⟩)
  | ((with_reducible refine s_modI ?_ ?_); omega)
  | ((with_reducible refine s_powI ?_ ?_); exact ⟨by decide, by decide, by decide⟩)
  | with_reducible refine s_ltI ?_
  | with_reducible refine s_leI ?_
  | with_reducible refine s_gtI ?_
  | with_reducible refine s_geI ?_
  | with_reducible refine s_negI ?_
  | with_reducible refine s_absI ?_
  | with_reducible refine s_intI ?_
  | with_reducible refine s_min2 ?_
  | with_reducible refine s_max2 ?_
  | with_reducible refine s_eqI ?_
  | with_reducible refine s_neI ?_
  | with_reducible refine s_eqS ?_
  | with_reducible refine s_neS ?_
  | with_reducible refine s_inSg ?_
  | with_reducible refine s_notInSg ?_
  | ((with_reducible refine s_addS ?_ ?_); (walk_at "sz"))
  | ((with_reducible refine s_lenS ?_ ?_); (walk_at "sz"))
  | ((with_reducible apply s_lenL); (walk_at "sq"))
  | ((with_reducible apply s_lenT); (walk_at "sqt"))
  | ((with_reducible apply s_ixL); (walk_at "sq"); exact rfl)
  | ((with_reducible apply s_ixT); (walk_at "sqt"); exact rfl)
  | with_reducible refine s_gSub ?_
  | ((with_reducible apply s_setL); (walk_at "hp"); (exact rfl); (intro _ _ _))
  | ((with_reducible refine s_alloc ?_ ?_); (walk_at "sz"); (intro _ _ _ _ _))
  | ((with_reducible refine s_divmod ?_ ?_); (exact ⟨by omega, PyProof.noPylong_small (by omega)⟩); (intro _ _ _ _ _))
  | ((with_reducible apply s_gTup); (walk_at "sqt"); (exact rfl))
  | ((with_reducible apply s_gLst); (walk_at "sq"); (exact rfl))
  | with_reducible refine s_gCons ?_
  | with_reducible refine s_gNil ?_
  | with_reducible refine s_lc ?_
  | ((with_reducible apply s_cat); (walk_at "hp"); (walk_at "hp"); (walk_at "sz"); (intro _ _ _ _ _))
  | ((with_reducible apply s_slL); (walk_at "sq"); (intro _ _ _ _ _))
  | with_reducible refine s_for ?_
  | with_reducible refine s_rng1 ?_
  | ((with_reducible refine s_rng1i ?_ ?_); (constructor <;> omega))
  | with_reducible refine s_rng2 ?_
  | ((with_reducible refine s_rng2i ?_ ?_); (refine ⟨?_, ?_, ?_, ?_⟩ <;> omega))
  | with_reducible refine s_iStr ?_
  | with_reducible refine s_iStrS ?_
  | with_reducible refine s_iList ?_
  | ((with_reducible apply s_iListA); (walk_at "sq"))
  | with_reducible refine s_iTup ?_
  | ((with_reducible apply s_iTupA); (walk_at "sqt"))
  | with_reducible refine s_sl ?_
  | with_reducible refine s_noPart ?_
  | with_reducible refine s_part ?_
  | with_reducible refine s_int1 ?_
  | ((with_reducible refine s_slS ?_ ?_); (walk_at "sz"))
  | with_reducible refine s_tup ?_
  | with_reducible refine s_lst ?_
  | with_reducible refine s_par ?_
  | with_reducible refine s_pair ?_
  | with_reducible refine s_M1 ?_
  | with_reducible refine s_isStr ?_
  | with_reducible refine s_revS ?_
  | ((with_reducible refine s_revS1 ?_ ?_); (walk_at "sz"))
  | with_reducible refine s_fldE ?_
  | with_reducible refine s_propE ?_
  | ((with_reducible refine u_draw ?_ ?_ ?_ ?_); omega; omega; (walk_at "pool"); (intro _ _ _ _ _ _))
  | ((with_reducible refine u_pool ?_); (intro _ _ _ _ _))
  | with_reducible refine u_is_integer ?_
  | with_reducible refine s_isiII ?_
  | with_reducible refine s_isiIB ?_
  | with_reducible refine s_isiSS ?_
  | ((with_reducible apply u_fldRing); assumption; (walk_at "ring"))
  | ((with_reducible apply u_textP); (walk_at "ring"))
  | ((with_reducible apply u_strRing); (walk_at "ring"))
  | ((with_reducible apply u_eqRing); (walk_at "ring"); (walk_at "ring"))
  | ((with_reducible apply u_isiRing); assumption; (walk_at "ring"))
  | ((with_reducible refine u_is_word ?_ ?_); omega; (intro _ _))
  | ((with_reducible refine u_turnings ?_ ?_); omega; (intro _ _ _ _ _))
  | with_reducible refine s_makeE ?_
  | with_reducible refine s_methE ?_)
local macro_rules | `(tactic| walk_at "go") => `(tactic| repeat (walk_at "st"))
local macro_rules | `(tactic| walk_at "exs") => `(tactic| first | exact Ex.rfl | assumption | (apply Ex.snoc (by assumption); walk_at "exs") | (apply Ex.snocW (by assumption); walk_at "exs"))
local macro_rules | `(tactic| walk_at "kind") => `(tactic| first | assumption | (apply KindAt.ex0 (by assumption); (walk_at "kind")) | (apply KindAt.exP (by assumption) (by assumption); (walk_at "kind")))
local macro_rules | `(tactic| walk_at "st") => `(tactic| first
  | with_reducible refine s_lenSet ?_
  | with_reducible refine s_drop ?_
  | with_reducible refine s_bm ?_
  | with_reducible refine s_notN ?_
  | with_reducible refine s_isN ?_
  | ((with_reducible apply s_tyL); (walk_at "hp"))
  | with_reducible refine s_enumT ?_
  | ((with_reducible apply s_enumTA); (walk_at "sqt"))
  | with_reducible refine s_lc2 ?_)
local macro_rules | `(tactic| walk_at "lit") => `(tactic| exact lit_MRK)
local macro_rules | `(tactic| walk_at "st") => `(tactic| first
  | with_reducible refine s_dcT ?_
  | with_reducible refine s_dc ?_)
local macro_rules | `(tactic| walk_at "som") => `(tactic| first | assumption | (apply SomeAt.ex (by assumption); (walk_at "nm"); (walk_at "som")))
def t_law_couplesU (K : PySem.W.Frag) : TS :=
  (tSeq (tAsg (tTup (tCons (tCall (sp_law_every K) [] E0 (tCons (tVar 1) tNil)) (tCons (tCall (sp_law_draw K) [] E0 (tCons (tVar 0) (tCons (tC (.int 8)) tNil))) tNil))) (gTup K 2 (gCons (gName 2) (gCons (gName 3) gNil))))
  (tSeq (tIfS (tTest (tOp rLtI (tVar 3) (tC (.int 2)))) (tRet (tOp (rIxL K) (tLst (tCons (tVar 2) (tCons (tLst tNil) tNil))) (tVar 3))) tNext)
  (tSeq (tAsg (tLc (iList K (tVar 2)) (gName 5) (tTest (tOp rLtI (tCall (sp_law_draw K) [] E0 (tCons (tVar 0) (tCons (tC (.int 4)) tNil))) (tOp (rIxL K) (tLst (tCons (tC (.int 2)) (tCons (tC (.int 3)) tNil))) (tCB rIntI (tCons (tOp rLtI (tVar 3) (tC (.int 5))) tNil))))) (tVar 5) [5]) (gName 4))
  (tRet (tCall (sp_law_shufU K) [] E0 (tCons (tVar 0) (tCons (tVar 4) tNil)))))))
def t_law_along12 (K : PySem.W.Frag) : TS :=
  (tSeq (tAsg (tOp rIxS (tVar 1) (tCall (sp_law_draw K) [] E0 (tCons (tVar 0) (tCons (tCB (rLenV K) (tCons (tVar 1) tNil)) tNil)))) (gName 3))
  (tSeq (tFor (iRng1 (tCons (tCall (sp_law_draw K) [] E0 (tCons (tVar 0) (tCons (tC (.int 7)) tNil))) tNil)) (gName 4) (tSeq (tAsg (tLc (iList K (tVar 2)) (gName 6) (tTest (tOp rEq (tOp rIxS (tVar 6) (tC (.int 0))) (tOp rIxS (tVar 3) (tUn rNegI (tC (.int 1)))))) (tOp rIxS (tVar 6) (tC (.int 1))) [6]) (gName 5))
  (tSeq (tIfS (tTest (tOp (rEqD K) (tVar 5) (tLst tNil))) (tRet (tVar 3)) tNext)
  (tAsg (tOp rAddS (tVar 3) (tOp (rIxL K) (tVar 5) (tCall (sp_law_draw K) [] E0 (tCons (tVar 0) (tCons (tCB (rLenV K) (tCons (tVar 5) tNil)) tNil))))) (gName 3)))))
  (tRet (tVar 3))))
def t_check_kind (K : PySem.W.Frag) : TS :=
  (tIfS (tNot (tB (tCB (rIsi K) (tCons (tVar 0) (tCons (tC (.ref (He.ga K "Kind"))) tNil))))) tNever tNext)
def t_check_kind_x (K : PySem.W.Frag) (E : XK) : TS :=
  (tIfS (tNot (tB (tCB (rIsi K) (tCons (tVar 0) (tCons (tC (.ref (He.ga K "Kind"))) tNil))))) (tRs K (He.ga K "NotAKind") "given" E (tCons (tVar 0) tNil)) tNext)
def t_Kind_and (K : PySem.W.Frag) : TS :=
  (tSeq (tDrop (tCall (sp_check_kind K) [] E0 (tCons (tVar 1) tNil)))
  (tSeq (tAsg (tM1 (rJoin K) (tC (.str "")) (tLc (iStr (tFld K (tVar 0) "letters")) (gName 3) (tTest (tOp rInSg (tVar 3) (tFld K (tVar 1) "letters"))) (tVar 3) [3])) (gName 2))
  (tSeq (tIfS (tTest (tOp rEq (tVar 2) (tC (.str "")))) tNever tNext)
  (tRet (tMake (He.ga K "Kind") (sp_Kind_init K) [] E0 (tCons (tVar 2) (tCons (tCB (rTupOf K) (tCons (tLc (iTup K (tFld K (tVar 0) "allowed")) (gName 4) (tTest (tOp (rIn K false) (tVar 4) (tFld K (tVar 1) "allowed"))) (tVar 4) [4]) tNil)) tNil)))))))
def t_Kind_and_x (K : PySem.W.Frag) (E : XK) : TS :=
  (tSeq (tDrop (tCall (spx_check_kind K) [] E (tCons (tVar 1) tNil)))
  (tSeq (tAsg (tM1 (rJoin K) (tC (.str "")) (tLc (iStr (tFld K (tVar 0) "letters")) (gName 3) (tTest (tOp rInSg (tVar 3) (tFld K (tVar 1) "letters"))) (tVar 3) [3])) (gName 2))
  (tSeq (tIfS (tTest (tOp rEq (tVar 2) (tC (.str "")))) (tRsN (He.ga K "NoRing") E) tNext)
  tNever)))
section
variable {K : PySem.W.Frag} {vs : List V} {H H1 H' : Hp} {Q : VK} {E : XK}
theorem lc_fmL {b : Addr} {ls : List (List Nat)} {j : Nat} {tt : TT} {te : TE} {σ : St} (hq : SqL K H b (ls.map vS)) (hn : ls.length ≤ 100000) (pr : List Nat → Bool) (val : List Nat → V)
    (h : ∀ (x : List Nat) (H1 : Hp) (C1 : VK) (C0 : Hp → Prop), x ∈ ls → Ex [] H H1 → (∀ H2, Ex [] H1 H2 → pr x = true → C1 (val x) H2) → (∀ H2, Ex [] H1 H2 → pr x = false → C0 H2) →
      tt ((wipe σ [j]).set j (some (vS x))) H1 fun b H2 => if b = true then te ((wipe σ [j]).set j (some (vS x))) H2 C1 else C0 H2)
    (k : ∀ D H', H D = none → Ex [] H H' → H' D = some (.lst ((ls.filter pr).map val)) → Q (.ref D) H') : LcW (Itl K b) (gName j) tt te [j] σ H Q := by
  refine lc_run (walk_list (xs := ls.map vS)) (by rw [List.length_map]; exact hn) [] (fun _ => True) (fun i acc _ => acc = ((ls.take i).filter pr).map val) (by simp) trivial (by simp) (fun _ _ _ _ _ => trivial) (fun _ _ _ _ _ _ h => h) (fun H1 e => e.sqL (by simp) hq) ?_ ?_
  · rintro i acc x H1 H2 C1 C0 hi e _ rfl ⟨rfl, hx⟩ k1 k0
    rw [List.length_map] at hi
    rw [List.getElem?_map, List.getElem?_eq_getElem hi] at hx
    cases hx
    refine ⟨wipe1 _ _ _, ?_⟩
    refine h ls[i] _ C1 C0 (List.getElem_mem hi) e (fun H5 e5 hp => k1 _ H5 e5 trivial ?_) (fun H5 e5 hp => k0 H5 e5 trivial ?_)
    · rw [List.take_add_one, List.getElem?_eq_getElem hi, List.filter_append, List.map_append]
      simp [hp]
    · rw [List.take_add_one, List.getElem?_eq_getElem hi, List.filter_append, List.map_append]
      simp [hp]
  · rintro D H' ys hD e _ hd _ rfl
    rw [List.length_map, List.take_length] at hd
    exact k D H' hD e hd
theorem at_nat {w : List Nat} {n : Int} (i : Nat) (e : n = i) (h : i < w.length) : atI w n = some (w.getD i 0) := by
  subst e
  refine atI_of (by omega) ?_
  rw [Int.toNat_natCast, List.getElem?_eq_getElem h, List.getD_eq_getElem?_getD, List.getElem?_eq_getElem h]
  rfl
theorem lst_take {α : Type} {xs : List α} {i : Nat} {x : α} (h : xs[i]? = some x) : xs.take (i + 1) = xs.take i ++ [x] := by rw [List.take_add_one, h]; rfl
theorem s_fldI {f : Str} {C dx : Addr} {fs : List (Str × V)} {v : V} {x : Addr} (hx : H x = some (.ins C dx fs)) (c : Cls K C) (na : NoAttr K C f) (hl : fs.lookup f = some v) (k : Q v H) : FldG K f (.ref x) H Q := ⟨x, C, dx, fs, v, rfl, hx, c, na, hl, k⟩
theorem perm_unmap {α β : Type} {f : α → β} {ys zs : List β} (h : ys.Perm zs) : ∀ ms : List α, zs = ms.map f → ∃ ns : List α, ns.Perm ms ∧ ys = ns.map f := by
  induction h with
  | nil =>
    intro ms e
    cases ms with
    | nil => exact ⟨[], .refl _, rfl⟩
    | cons m ms => cases e
  | cons x h ih =>
    intro ms e
    cases ms with
    | nil => cases e
    | cons m ms =>
      rw [List.map_cons] at e
      injection e with e1 e2
      obtain ⟨ns, h1, h2⟩ := ih ms e2
      exact ⟨m :: ns, h1.cons m, by rw [List.map_cons, e1, h2]⟩
  | swap x y l =>
    intro ms e
    cases ms with
    | nil => cases e
    | cons m ms =>
      cases ms with
      | nil => cases e
      | cons n ms =>
        rw [List.map_cons, List.map_cons] at e
        injection e with e1 e2
        injection e2 with e2 e3
        exact ⟨n :: m :: ms, List.Perm.swap m n ms, by rw [List.map_cons, List.map_cons, e1, e2, e3]⟩
  | trans h1 h2 ih1 ih2 =>
    intro ms e
    obtain ⟨ns, g1, g2⟩ := ih2 ms e
    obtain ⟨os, g3, g4⟩ := ih1 ns g2
    exact ⟨os, g3.trans g1, g4⟩
theorem pure_law_couplesU (h : sp_law_couplesU K vs H Q E) : t_law_couplesU K (E1 Q) (start ["_law_pool_here", "_law_abc", "_law_every_here", "_law_way", "_law_some", "_law_mate"] vs) H := by
  obtain ⟨a, s, rfl, hs, hp, k⟩ := h
  have hpl := prs_len s
  have h16 : (prs s).length ≤ 16 := by rw [hpl]; exact Nat.mul_le_mul hs.2.1 hs.2.1
  have hgp := goodP_prs hs.2.2
  show t_law_couplesU K (E1 Q) [some (.ref a), some (vS s), none, none, none, none] H
  unfold t_law_couplesU
  walk_at "go"
  refine u_every (by have := hs.2.1; omega) fun p1 H1 n1 e1 h1 => ?_
  have ne1 : p1 ≠ a := fun z => hp.there (z ▸ n1)
  have pp1 : PoolAt H1 a := by walk_at "pool"
  walk_at "go"
  rename_i w H2 w0 w1 e2 pp2 q H3 nq e3 h3
  have pp3 : PoolAt H3 a := by walk_at "pool"
  have h13 : H3 p1 = some (.lst ((prs s).map vS)) := by walk_at "hp"
  have ea : Ex [a] H H3 := by walk_at "exs"
  clear e1 h1 pp1 e2 pp2 e3 h3 nq
  refine s_2 (fun hb => ?_) (fun hb => ?_)
  · have hb := of_decide_eq_true hb
    walk_at "go"
    rename_i q1 H4 nq1 e4 h4 q2 H5 nq2 e5 h5
    have pp5 : PoolAt H5 a := by walk_at "pool"
    have e05 : Ex [a] H H5 := by walk_at "exs"
    rcases (show w = 0 ∨ w = 1 by omega) with rfl | rfl
    · exact s_ixL (SqL.of h5) rfl (k _ _ _ hgp h16 n1 e05 pp5 (by walk_at "hp"))
    · refine s_ixL (SqL.of h5) rfl (k [] q1 _ (goodP_sub hgp (List.nil_sublist _)) (by simp) ?_ e05 pp5 (e5.get0 h4))
      cases z : H q1 with
      | none => rfl
      | some o =>
        have := ea q1 o (by simp only [List.mem_singleton]; intro y; rw [y] at nq1; exact pp3.there nq1) z
        rw [this] at nq1
        cases nq1
  walk_at "go"
  refine lc_subL h13 ne1 (by simp) (by omega) pp3 (fun x H4 R hx e4 pp4 kk => ?_) (fun D H4 ms hD e4 pp4 hms h4 => ?_)
  · walk_at "go"
    rename_i d H5 d0 d1 e5 pp5 q5 H6 n6 e6 h6
    have hix : ∃ v : Int, atI [V.int 2, V.int 3] (if decide (w < 5) = true then 1 else 0) = some (.int v) := by
      cases decide (w < 5)
      · exact ⟨2, rfl⟩
      · exact ⟨3, rfl⟩
    obtain ⟨v, hv⟩ := hix
    refine s_intB ?_
    refine s_ixL (SqL.of h6) hv ?_
    walk_at "go"
    exact kk _ _ (by walk_at "exs") (by walk_at "pool")
  walk_at "go"
  have hDa : D ≠ a := fun z => pp3.there (z ▸ hD)
  have hml := hms.length_le
  refine u_shufU (xs := ms.map vS) (.inr ⟨D, rfl, .inl (SqL.of h4)⟩) (by rw [List.length_map]; omega) pp4 fun ys p H5 hy np e5 pp5 h5 => ?_
  obtain ⟨ns, hn, rfl⟩ := perm_unmap hy _ rfl
  refine k ns p H5 (goodP_perm (goodP_sub hgp hms) hn) (by have := hn.length_eq; omega) ?_ ((ea.trans e4).trans e5) pp5 h5
  cases z : H p with
  | none => rfl
  | some o =>
    have := (ea.trans e4) p o (by simp only [List.mem_singleton]; intro y; rw [y] at np; exact pp4.there np) z
    rw [this] at np
    cases np
theorem pure_law_along12 (h : sp_law_along12 K vs H Q E) : t_law_along12 K (E1 Q) (start ["_law_pool_here", "_law_abc", "_law_some", "_law_word", "_law_turn", "_law_later", "_law_mate"] vs) H := by
  obtain ⟨a, s, p, rfl, ps, hs, hg, hl, hpa0, hsp, hp, k⟩ := h
  have hsm : SomeAt H a p ps := ⟨hpa0, hsp⟩
  have hsl := isWord_len hs.1
  have h4 := hs.2.1
  have hpa := hsm.1
  show t_law_along12 K (E1 Q) [some (.ref a), some (vS s), some (.ref p), none, none, none, none] H
  unfold t_law_along12
  walk_at "go"
  rename_i d H1 d0 d1 e1 p1
  have hd : d.toNat < s.length := by omega
  refine s_ixS (c := s[d.toNat]) (by walk_at "sz") (atI_of d0 (List.getElem?_eq_getElem hd)) ?_
  have hcs : s[d.toNat] ∈ LET := isWord_in hs.1 _ (List.getElem_mem hd)
  generalize s[d.toNat] = c0 at hcs
  walk_at "go"
  rename_i n H2 n0 n1 e2 p2
  have s2 : SomeAt H2 a p ps := by walk_at "som"
  have e02 : Ex [a] H H2 := by walk_at "exs"
  refine for_rng (fun i σ H' => ∃ (w : List Nat) (x4 x5 x6 : Option V), σ = [some (.ref a), some (vS s), some (.ref p), some (vS w), x4, x5, x6] ∧ w.length = i + 1 ∧ (∀ c ∈ w, c ∈ LET) ∧ SomeAt H' a p ps ∧ Ex [a] H H' ∧ PoolAt H' a) ⟨[c0], _, _, _, rfl, rfl, by simpa using hcs, s2, e02, p2⟩ ?_ ?_
  · rintro i _ H3 hi ⟨w, x4, x5, x6, rfl, hw, hws, s3, e3, p3⟩
    have hi : i < 12 := by omega
    have q3 := s3.2
    have hlast : w[w.length - 1]? = some (w[w.length - 1]'(by omega)) := List.getElem?_eq_getElem _
    walk_at "go"
    refine lc_fmL (SqL.of s3.2) (by omega) (fun q => decide ([q.getD 0 0] = [w[w.length - 1]'(by omega)])) (fun q => vS [q.getD 1 0]) (fun q H4 C1 C0 hq e4 k1 k0 => ?_) (fun D H4 hD e4 hd4 => ?_)
    · have h2 := (hg q hq).1
      walk_at "go"
      refine s_ixS (c := q.getD 0 0) (by walk_at "sz") (at_nat 0 rfl (by omega)) ?_
      walk_at "go"
      refine s_ixS (c := w[w.length - 1]'(by omega)) (by walk_at "sz") ?_ ?_
      · unfold atI ixN
        rw [if_neg (by omega), if_pos (by omega)]
        show w[(-1 + (w.length : Int)).toNat]? = _
        rw [show (-1 + (w.length : Int)).toNat = w.length - 1 by omega]
        exact hlast
      walk_at "go"
      refine s_2 (fun hb => ?_) (fun hb => ?_)
      · walk_at "go"
        refine s_ixS (c := q.getD 1 0) (by walk_at "sz") (at_nat 1 rfl (by omega)) ?_
        exact k1 _ Ex.rfl hb
      · exact k0 _ Ex.rfl hb
    have hl4 : (ps.filter fun q => decide ([q.getD 0 0] = [w[w.length - 1]'(by omega)])).length ≤ 40 := Nat.le_trans (List.length_filter_le _ _) hl
    have hm4 : ∀ q ∈ ps.filter (fun q => decide ([q.getD 0 0] = [w[w.length - 1]'(by omega)])), q.getD 1 0 ∈ LET := fun q hq => by
      have := hg q (List.mem_filter.mp hq).1
      refine this.2 _ ?_
      rw [List.getD_eq_getElem?_getD, List.getElem?_eq_getElem (by omega)]
      exact List.getElem_mem _
    revert hd4 hl4 hm4
    generalize (ps.filter fun q => decide ([q.getD 0 0] = [w[w.length - 1]'(by omega)])) = qs
    intro hd4 hl4 hm4
    have hDa : D ≠ a := fun z => p3.there (z ▸ hD)
    have p4 : PoolAt H4 a := by walk_at "pool"
    have s4 : SomeAt H4 a p ps := by walk_at "som"
    have e34 : Ex [a] H H4 := by walk_at "exs"
    clear e4 e3 p3 s3 q3
    walk_at "go"
    rename_i q5 H5 n5 e5 h5
    refine s_eqLSnil (ls := qs.map fun q => [q.getD 1 0]) (by rw [List.map_map]; exact SqL.of (e5.get0 hd4)) (SqL.of h5) ?_ ?_
    · intro l hl
      obtain ⟨q, hq, rfl⟩ := List.mem_map.mp hl
      intro c hc
      rw [List.mem_singleton.mp hc]
      exact plain_let (l := LET) (fun c h => h) _ (hm4 q hq)
    rw [List.isEmpty_map]
    walk_at "go"
    refine s_2 (fun hb => ?_) (fun hb => ?_)
    · walk_at "go"
      exact k _ _ (by omega) (by omega) hws (by walk_at "exs") (by walk_at "pool")
    · have hne : 1 ≤ qs.length := by
        cases qs with
        | nil => simp at hb
        | cons _ _ => simp
      have hlen : (qs.map fun q => vS [q.getD 1 0]).length = qs.length := List.length_map ..
      walk_at "go"
      rename_i d H6 d0 d1 e6 p6
      have hdl : d.toNat < qs.length := by omega
      refine s_ixL (v := vS [qs[d.toNat].getD 1 0]) (SqL.of (by walk_at "hp")) (atI_of d0 (by rw [List.getElem?_map, List.getElem?_eq_getElem hdl]; rfl)) ?_
      have hin := hm4 _ (List.getElem_mem hdl)
      generalize qs[d.toNat].getD 1 0 = c1 at hin
      walk_at "go"
      refine ⟨w ++ [c1], _, _, _, rfl, by simp [hw], ?_, by walk_at "som", by walk_at "exs", p6⟩
      intro c hc
      rcases List.mem_append.mp hc with h | h
      · exact hws c h
      · rw [List.mem_singleton.mp h]; exact hin
  · rintro _ H3 ⟨w, x4, x5, x6, rfl, hw, hws, s3, e3, p3⟩
    walk_at "go"
    exact k _ _ (by omega) (by omega) hws e3 p3
section
variable {a : Addr} {ls : List (List Nat)} {j : Nat} {tt : TT} {σ : L2.St}
theorem lc_fltT (hq : SqT K H a (ls.map vS)) (hn : ls.length ≤ 1000) (pr : List Nat → Bool) (hj : ∀ c, ((wipe σ [j]).set j (some (vS c)))[j]? = some (some (vS c)))
    (h : ∀ (c : List Nat) (H1 : Hp) (C : Bool → Hp → Prop), c ∈ ls → Ex [] H H1 → (∀ H2, Ex [] H1 H2 → C (pr c) H2) → tt ((wipe σ [j]).set j (some (vS c))) H1 C)
    (k : ∀ D H', H D = none → Ex [] H H' → H' D = some (.lst ((ls.filter pr).map vS)) → Q (.ref D) H') : LcW (Itt K a) (gName j) tt (tVar j) [j] σ H Q := by
  refine lc_run (walk_tup (xs := ls.map vS)) (by rw [List.length_map]; omega) [] (fun _ => True) (fun i acc _ => acc = ((ls.take i).filter pr).map vS) (by simp) trivial (by simp) (fun _ _ _ _ _ => trivial) (fun _ _ _ _ _ _ h => h) (fun H1 e => e.sqT (by simp) hq) ?_ ?_
  · rintro i acc x H1 H2 C1 C0 hi e _ rfl ⟨rfl, hx⟩ k1 k0
    rw [List.length_map] at hi
    have hc := List.getElem?_eq_getElem hi
    rw [List.getElem?_map, hc] at hx
    cases hx
    refine ⟨wipe1 _ _ _, ?_⟩
    refine h ls[i] H2 _ (List.getElem_mem hi) e fun H3 e3 => ?_
    cases hp : pr ls[i] with
    | true =>
      refine s_T rfl (s_var (hj _) (k1 _ H3 e3 trivial ?_))
      rw [lst_take hc, List.filter_append, List.map_append]
      simp [hp]
    | false =>
      refine s_F rfl (k0 H3 e3 trivial ?_)
      rw [lst_take hc, List.filter_append, List.map_append]
      simp [hp]
  · rintro D H' ys hD e _ hd _ rfl
    rw [List.length_map, List.take_length] at hd
    exact k D H' hD e hd
theorem lc_fltS {cs : List Nat} (hn : cs.length ≤ 1000) (pr : Nat → Bool) (hj : ∀ c, ((wipe σ [j]).set j (some (vS [c])))[j]? = some (some (vS [c])))
    (h : ∀ (c : Nat) (H1 : Hp) (C : Bool → Hp → Prop), c ∈ cs → Ex [] H H1 → (∀ H2, Ex [] H1 H2 → C (pr c) H2) → tt ((wipe σ [j]).set j (some (vS [c]))) H1 C)
    (k : ∀ D H', H D = none → Ex [] H H' → H' D = some (.lst ((cs.filter pr).map fun c => vS [c])) → Q (.ref D) H') : LcW (Its (S cs)) (gName j) tt (tVar j) [j] σ H Q := by
  have wk := walk_str (z := S cs)
  have hsz : (S cs).cps.size = cs.length := by simp [S]
  rw [hsz] at wk
  refine lc_run wk (by omega) [] (fun _ => True) (fun i acc _ => acc = ((cs.take i).filter pr).map fun c => vS [c]) (by simp) trivial (by simp) (fun _ _ _ _ _ => trivial) (fun _ _ _ _ _ _ h => h) (fun _ _ => trivial) ?_ ?_
  · rintro i acc x H1 H2 C1 C0 hi e _ rfl ⟨rfl, c', hx, rfl⟩ k1 k0
    have hc := List.getElem?_eq_getElem hi
    have hcc : c' = cs[i] := by
      have : (S cs).cps[i]? = some cs[i] := by simp [S, hc]
      rw [hx] at this
      exact Option.some.inj this
    subst hcc
    refine ⟨wipe1 _ _ _, ?_⟩
    refine h cs[i] H2 _ (List.getElem_mem hi) e fun H3 e3 => ?_
    cases hp : pr cs[i] with
    | true =>
      refine s_T rfl (s_var (hj _) (k1 _ H3 e3 trivial ?_))
      rw [lst_take hc, List.filter_append, List.map_append]
      simp [hp]
    | false =>
      refine s_F rfl (k0 H3 e3 trivial ?_)
      rw [lst_take hc, List.filter_append, List.map_append]
      simp [hp]
  · rintro D H' ys hD e _ hd _ rfl
    rw [List.take_length] at hd
    exact k D H' hD e hd
end
theorem flat_sg : ∀ l : List Nat, (l.map fun c => [c]).flatten = l
  | [] => rfl
  | c :: l => by rw [List.map_cons, List.flatten_cons, flat_sg l]; rfl
theorem s_isiKindNo {v : V} {s : Th12} (F : Own12 K) (h : ThAt K [] H v s) (k : Q (.bl false) H) : rIsi K [v, .ref (He.ga K "Kind")] H Q := by
  rcases h.kd F with ⟨n, hk⟩ | ⟨b, w, rfl, dx, hx⟩
  · exact ⟨_, _, _, _, _, rfl, .own _, hk.1, F.kk.no n hk.2, k⟩
  · exact ⟨_, _, _, _, _, rfl, .own _, F.rk.ty H b dx _ hx, F.kk.rn, k⟩
theorem pure_check_kind (F : KindK K) (h : sp_check_kind K vs H Q E) : t_check_kind K (E1 Q) (start ["value"] vs) H := by
  obtain ⟨x, rfl, l, ps, ⟨dx, t, h1, h2⟩, k⟩ := h
  show t_check_kind K (E1 Q) [some (.ref x)] H
  unfold t_check_kind
  refine s_ifS (s_not (s_tB (s_cb (s_cons (s_var (v := .ref x) rfl (s_cons (s_c (s_nil ?_))))))))
  exact ⟨_, _, _, _, _, rfl, .own _, F.ty H x dx _ h1, F.me, s_blQ (s_F rfl (s_next k))⟩
theorem pure_check_kind_x (F : Own12 K) (X : ExcK K (He.ga K "NotAKind") (He.ma K (He.ga K "NotAKind") "__init__") "given") (h : spr_check_kind K vs H Q E) : t_check_kind_x K E (E1 Q) (start ["value"] vs) H := by
  obtain ⟨v, rfl, s, hs, r⟩ := h
  show t_check_kind_x K E (E1 Q) [some v] H
  unfold t_check_kind_x
  refine s_ifS (s_not (s_tB (s_cb (s_cons (s_var (v := v) rfl (s_cons (s_c (s_nil (s_isiKindNo F hs (s_blQ ?_))))))))))
  exact s_T rfl (s_rs (s_cons (s_var (v := v) rfl (s_nil (rsd_of X Ex.rfl r)))))
theorem pure_Kind_and (F : KindK K) (h : sp_Kind_and K vs H Q E) : t_Kind_and K (E1 Q) (start ["self", "other", "signs", "sign", "pair"] vs) H := by
  obtain ⟨a, b, rfl, l, ps, m, qs, ha, hb, gs, gp, gq, ne, hpl, k⟩ := h
  show t_Kind_and K (E1 Q) [some (.ref a), some (.ref b), none, none, none] H
  unfold t_Kind_and
  have l4 := gs.2.1
  refine s_seq (s_drop (s_call (s_cons (s_var (v := .ref b) rfl (s_nil ⟨b, rfl, m, qs, hb, ?_⟩)))))
  refine s_seq (s_asg (s_M1 (s_c ⟨⟨_, rfl⟩, s_lc (s_iStr ?_)⟩)))
  obtain ⟨dxa, ta, hxa, hta⟩ := id ha
  obtain ⟨dxb, tb, hxb, htb⟩ := id hb
  refine s_fldE (s_var (v := .ref a) rfl (s_fldI hxa F.cl F.na1 rfl (s_iStrS ?_)))
  refine lc_fltS (by omega) (fun c => decide (c ∈ m)) (fun c => rfl) (fun c H1 C hc e1 kc => ?_) fun D H1 nD e1 hD => ?_
  · refine s_test (s_op (s_var (v := vS [c]) rfl (s_fldE (s_var (v := .ref b) rfl (s_fldI (e1.get0 hxb) F.cl F.na1 rfl (s_inSg (s_blQ (kc H1 Ex.rfl))))))))
  have fl : (((metS l m).map fun c => [c])).flatten = metS l m := flat_sg _
  have ml : (metS l m).length ≤ 4 := Nat.le_trans (List.length_filter_le _ _) l4
  refine s_join0 (ls := (metS l m).map fun c => [c]) (by rw [List.map_map]; exact SqL.of hD) (by rw [fl]; omega) ?_
  rw [fl]
  refine s_gName ?_
  show tSeq _ _ _ [some (.ref a), some (.ref b), some (vS (metS l m)), none, none] _
  refine s_seq (s_ifS (s_test (s_op (s_var (v := vS (metS l m)) rfl (s_c (s_eqS (s_blQ ?_)))))))
  refine s_F (decide_eq_false ne) (s_next (s_ret (s_makeE (s_cons (s_var (v := vS (metS l m)) rfl (s_cons (s_cb (s_cons (s_lc (s_iTup ?_))))))))))
  refine s_fldE (s_var (v := .ref a) rfl (s_fldI (e1.get0 hxa) F.cl F.na2 rfl (s_iTupA (e1.sqT (by simp) hta) ?_)))
  refine lc_fltT (e1.sqT (by simp) hta) (by omega) (fun p => decide (p ∈ qs)) (fun c => rfl) (fun p H2 C hp e2 kp => ?_) fun D2 H2 nD2 e2 hD2 => ?_
  · refine s_test (s_op (s_var (v := vS p) rfl (s_fldE (s_var (v := .ref b) rfl (s_fldI ((e1.trans e2).get0 hxb) F.cl F.na2 rfl (s_inT ((e1.trans e2).sqT (by simp) htb) (s_blQ (kp H2 Ex.rfl))))))))
  refine s_nil (s_tupOf (SqL.of hD2) fun t H3 nt e3 ht => s_nil ?_)
  refine u_makeKind (s := metS l m) (v := .ref t) (ps := metP ps qs) rfl (good_met gs ne) (.inr ⟨t, rfl, SqT.of ht, goodP_met gp gq, Nat.lt_of_le_of_lt (List.length_filter_le _ _) hpl⟩) fun x H4 nx e4 hk => ?_
  exact k x H4 (((e1.trans e2).trans e3).trans e4) hk
theorem pure_Kind_and_x (F : Own12 K) (X : ExcK K (He.ga K "NotAKind") (He.ma K (He.ga K "NotAKind") "__init__") "given") (N : ExcN K (He.ga K "NoRing") (He.ma K (He.ga K "NoRing") "__init__")) (h : spr_Kind_and K vs H Q E) : t_Kind_and_x K E (E1 Q) (start ["self", "other", "signs", "sign", "pair"] vs) H := by
  obtain ⟨a, v, rfl, l, ps, ha, gs, h⟩ := h
  show t_Kind_and_x K E (E1 Q) [some (.ref a), some v, none, none, none] H
  unfold t_Kind_and_x
  rcases h with ⟨s, hs, r⟩ | ⟨b, m, qs, rfl, hb, em, r⟩
  · exact s_seq (s_drop (s_call (s_cons (s_var (v := v) rfl (s_nil (.inr ⟨v, rfl, s, hs, r⟩))))))
  have l4 := gs.2.1
  refine s_seq (s_drop (s_call (s_cons (s_var (v := .ref b) rfl (s_nil (.inl ⟨b, rfl, m, qs, hb, ?_⟩))))))
  refine s_seq (s_asg (s_M1 (s_c ⟨⟨_, rfl⟩, s_lc (s_iStr ?_)⟩)))
  obtain ⟨dxa, ta, hxa, hta⟩ := id ha
  obtain ⟨dxb, tb, hxb, htb⟩ := id hb
  refine s_fldE (s_var (v := .ref a) rfl (s_fldI hxa F.kk.cl F.kk.na1 rfl (s_iStrS ?_)))
  refine lc_fltS (by omega) (fun c => decide (c ∈ m)) (fun c => rfl) (fun c H1 C hc e1 kc => ?_) fun D H1 nD e1 hD => ?_
  · refine s_test (s_op (s_var (v := vS [c]) rfl (s_fldE (s_var (v := .ref b) rfl (s_fldI (e1.get0 hxb) F.kk.cl F.kk.na1 rfl (s_inSg (s_blQ (kc H1 Ex.rfl))))))))
  have fl : (((metS l m).map fun c => [c])).flatten = metS l m := flat_sg _
  have ml : (metS l m).length ≤ 4 := Nat.le_trans (List.length_filter_le _ _) l4
  refine s_join0 (ls := (metS l m).map fun c => [c]) (by rw [List.map_map]; exact SqL.of hD) (by rw [fl]; omega) ?_
  rw [fl]
  refine s_gName ?_
  show tSeq _ _ _ [some (.ref a), some (.ref b), some (vS (metS l m)), none, none] _
  refine s_seq (s_ifS (s_test (s_op (s_var (v := vS (metS l m)) rfl (s_c (s_eqS (s_blQ ?_)))))))
  refine s_T (decide_eq_true em) (s_rsN ?_)
  exact r _ e1
end
end WB
namespace WB
open PySem PySem.Spec PyProof.Rows L2 LamX
theorem l12b_107_105_110_100 : ("kind" : Str) = S [107, 105, 110, 100] := by decide +kernel
theorem l12b_114_105_110_103 : ("ring" : Str) = S [114, 105, 110, 103] := by decide +kernel
theorem l12b_116_111_108_100 : ("told" : Str) = S [116, 111, 108, 100] := by decide +kernel
local macro_rules | `(tactic| walk_at "lit") => `(tactic| first | exact l12b_107_105_110_100 | exact l12b_114_105_110_103 | exact l12b_116_111_108_100)
local macro_rules | `(tactic| walk_at "lit") => `(tactic| first | exact lit_abc | exact lit_empty)
local macro_rules | `(tactic| walk_at "nm") => `(tactic| focus first | exact List.not_mem_nil | (simp only [List.mem_singleton]; first | assumption | (exact Ne.symm (by assumption)) | (intro hz; subst hz; simp_all; done)))
local macro_rules | `(tactic| walk_at "hp") => `(tactic| first | assumption | (apply Ex.get0 (by assumption); walk_at "hp") | (apply Ex.get (by assumption); (walk_at "nm"); (walk_at "hp")))
local macro_rules | `(tactic| walk_at "sq") => `(tactic| first | assumption | (apply SqL.of; walk_at "hp") | (apply Ex.sqL (by assumption); (walk_at "nm"); (walk_at "sq")))
local macro_rules | `(tactic| walk_at "sqt") => `(tactic| first | assumption | (apply SqT.of; walk_at "hp") | (apply Ex.sqT (by assumption); (walk_at "nm"); (walk_at "sqt")))
local macro_rules | `(tactic| walk_at "sz") => `(tactic| focus ((with_reducible refine Nat.le_trans (m := 100000) ?_ (by decide)); first | omega | (simp; done) | (simp; omega)))
local macro_rules | `(tactic| walk_at "mul") => `(tactic| first | exact Or.inr ⟨by omega, by omega⟩ | exact Or.inl ⟨by omega, by omega⟩)
local macro_rules | `(tactic| walk_at "pool") => `(tactic| first | assumption | (apply PoolAt.ex (by assumption); (walk_at "nm"); (walk_at "pool")))
local macro_rules | `(tactic| walk_at "ring") => `(tactic| first | assumption | (apply RingAt.ex (by assumption); (walk_at "nm"); (walk_at "ring")))
local macro_rules | `(tactic| walk_at "st") => `(tactic| first
  | with_reducible refine s_seq ?_
  | with_reducible refine s_asg ?_
  | with_reducible refine s_gName ?_
  | with_reducible refine s_ret ?_
  | with_reducible refine s_ifS ?_
  | with_reducible refine s_next ?_
  | with_reducible refine s_op ?_
  | ((with_reducible apply s_var); exact rfl)
  | ((with_reducible apply s_cS); (walk_at "lit"))
  | with_reducible refine s_c ?_
  | with_reducible refine s_cb ?_
  | with_reducible refine s_cons ?_
  | with_reducible refine s_nil ?_
  | with_reducible refine s_un ?_
  | with_reducible refine s_call ?_
  | with_reducible refine s_test ?_
  | with_reducible refine s_tB ?_
  | with_reducible refine s_blQ ?_
  | with_reducible refine s_not ?_
  | with_reducible refine s_and ?_
  | with_reducible refine s_or ?_
  | with_reducible refine s_andV ?_
  | with_reducible refine s_orV ?_
  | with_reducible refine s_notV ?_
  | with_reducible refine s_ifE ?_
  | with_reducible refine s_chain ?_
  | ((with_reducible refine s_T ?_ ?_); (with_reducible exact rfl))
  | with_reducible refine s_nT ?_
  | with_reducible refine s_nF ?_
  | ((with_reducible refine s_F ?_ ?_); (with_reducible exact rfl))
  | ((with_reducible refine s_T ?_ ?_); assumption)
  | ((with_reducible refine s_F ?_ ?_); assumption)
  | ((with_reducible refine s_nB ?_ ?_); assumption)
  | ((with_reducible refine s_nA ?_ ?_); assumption)
  | ((with_reducible refine s_Td ?_ ?_); omega)
  | ((with_reducible refine s_Fd ?_ ?_); omega)
  | ((with_reducible refine s_nTd ?_ ?_); omega)
  | ((with_reducible refine s_nFd ?_ ?_); omega)
  | with_reducible refine s_sfld ?_
  | with_reducible refine s_addI ?_
  | with_reducible refine s_subI ?_
  | ((with_reducible refine s_mulI ?_ ?_); (walk_at "mul"))
  | ((with_reducible refine s_divI ?_ ?_); exact ⟨by omega, by omega⟩)
  | ((with_reducible refine s_modI ?_ ?_); omega)
  | ((with_reducible refine s_powI ?_ ?_); exact ⟨by decide, by decide, by decide⟩)
  | with_reducible refine s_ltI ?_
  | with_reducible refine s_leI ?_
  | with_reducible refine s_gtI ?_
  | with_reducible refine s_geI ?_
  | with_reducible refine s_negI ?_
  | with_reducible refine s_absI ?_
  | with_reducible refine s_intI ?_
  | with_reducible refine s_min2 ?_
  | with_reducible refine s_max2 ?_
  | with_reducible refine s_eqI ?_
  | with_reducible refine s_neI ?_
  | with_reducible refine s_eqS ?_
  | with_reducible refine s_neS ?_
  | with_reducible refine s_inSg ?_
  | with_reducible refine s_notInSg ?_
  | ((with_reducible refine s_addS ?_ ?_); (walk_at "sz"))
  | ((with_reducible refine s_lenS ?_ ?_); (walk_at "sz"))
  | ((with_reducible apply s_lenL); (walk_at "sq"))
  | ((with_reducible apply s_lenT); (walk_at "sqt"))
  | ((with_reducible apply s_ixL); (walk_at "sq"); exact rfl)
  | ((with_reducible apply s_ixT); (walk_at "sqt"); exact rfl)
  | with_reducible refine s_gSub ?_
  | ((with_reducible apply s_setL); (walk_at "hp"); (exact rfl); (intro _ _ _))
  | ((with_reducible refine s_alloc ?_ ?_); (walk_at "sz"); (intro _ _ _ _ _))
  | ((with_reducible refine s_divmod ?_ ?_); (exact ⟨by omega, PyProof.noPylong_small (by omega)⟩); (intro _ _ _ _ _))
  | ((with_reducible apply s_gTup); (walk_at "sqt"); (exact rfl))
  | ((with_reducible apply s_gLst); (walk_at "sq"); (exact rfl))
  | with_reducible refine s_gCons ?_
  | with_reducible refine s_gNil ?_
  | with_reducible refine s_lc ?_
  | ((with_reducible apply s_cat); (walk_at "hp"); (walk_at "hp"); (walk_at "sz"); (intro _ _ _ _ _))
  | ((with_reducible apply s_slL); (walk_at "sq"); (intro _ _ _ _ _))
  | with_reducible refine s_for ?_
  | with_reducible refine s_rng1 ?_
  | ((with_reducible refine s_rng1i ?_ ?_); (constructor <;> omega))
  | with_reducible refine s_rng2 ?_
  | ((with_reducible refine s_rng2i ?_ ?_); (refine ⟨?_, ?_, ?_, ?_⟩ <;> omega))
  | with_reducible refine s_iStr ?_
  | with_reducible refine s_iStrS ?_
  | with_reducible refine s_iList ?_
  | ((with_reducible apply s_iListA); (walk_at "sq"))
  | with_reducible refine s_iTup ?_
  | ((with_reducible apply s_iTupA); (walk_at "sqt"))
  | with_reducible refine s_sl ?_
  | with_reducible refine s_noPart ?_
  | with_reducible refine s_part ?_
  | with_reducible refine s_int1 ?_
  | ((with_reducible refine s_slS ?_ ?_); (walk_at "sz"))
  | with_reducible refine s_tup ?_
  | with_reducible refine s_lst ?_
  | with_reducible refine s_par ?_
  | with_reducible refine s_pair ?_
  | with_reducible refine s_M1 ?_
  | with_reducible refine s_isStr ?_
  | with_reducible refine s_revS ?_
  | ((with_reducible refine s_revS1 ?_ ?_); (walk_at "sz"))
  | with_reducible refine s_fldE ?_
  | with_reducible refine s_propE ?_
  | ((with_reducible refine u_draw ?_ ?_ ?_ ?_); omega; omega; (walk_at "pool"); (intro _ _ _ _ _ _))
  | ((with_reducible refine u_pool ?_); (intro _ _ _ _ _))
  | with_reducible refine u_is_integer ?_
  | with_reducible refine s_isiII ?_
  | with_reducible refine s_isiIB ?_
  | with_reducible refine s_isiSS ?_
  | ((with_reducible apply u_fldRing); assumption; (walk_at "ring"))
  | ((with_reducible apply u_textP); (walk_at "ring"))
  | ((with_reducible apply u_strRing); (walk_at "ring"))
  | ((with_reducible apply u_eqRing); (walk_at "ring"); (walk_at "ring"))
  | ((with_reducible apply u_isiRing); assumption; (walk_at "ring"))
  | ((with_reducible refine u_is_word ?_ ?_); omega; (intro _ _))
  | ((with_reducible refine u_turnings ?_ ?_); omega; (intro _ _ _ _ _))
  | with_reducible refine s_makeE ?_
  | with_reducible refine s_methE ?_)
local macro_rules | `(tactic| walk_at "go") => `(tactic| repeat (walk_at "st"))
local macro_rules | `(tactic| walk_at "exs") => `(tactic| first | exact Ex.rfl | assumption | (apply Ex.snoc (by assumption); walk_at "exs") | (apply Ex.snocW (by assumption); walk_at "exs"))
local macro_rules | `(tactic| walk_at "kind") => `(tactic| first | assumption | (apply KindAt.ex0 (by assumption); (walk_at "kind")) | (apply KindAt.exP (by assumption) (by assumption); (walk_at "kind")))
local macro_rules | `(tactic| walk_at "st") => `(tactic| first
  | with_reducible refine s_lenSet ?_
  | with_reducible refine s_drop ?_
  | with_reducible refine s_bm ?_
  | with_reducible refine s_notN ?_
  | with_reducible refine s_isN ?_
  | ((with_reducible apply s_tyL); (walk_at "hp"))
  | with_reducible refine s_enumT ?_
  | ((with_reducible apply s_enumTA); (walk_at "sqt"))
  | with_reducible refine s_lc2 ?_)
local macro_rules | `(tactic| walk_at "lit") => `(tactic| exact lit_MRK)
local macro_rules | `(tactic| walk_at "st") => `(tactic| first
  | with_reducible refine s_dcT ?_
  | with_reducible refine s_dc ?_)
local macro_rules | `(tactic| walk_at "som") => `(tactic| first | assumption | (apply SomeAt.ex (by assumption); (walk_at "nm"); (walk_at "som")))
def t_law_both12 (K : PySem.W.Frag) : TS :=
  (tSeq (tAsg (tM1 (rJoin K) (tC (.str "")) (tLc (iList K (tCB (rSrt K) (tCons (tVar 0) tNil))) (gName 5) (tTest (tOp rInStr (tVar 5) (tVar 1))) (tVar 5) [5])) (gName 4))
  (tRet (tTup (tCons (tVar 4) (tCons (tCB (rTupOf K) (tCons (tLc (iList K (tCB (rSrt K) (tCons (tVar 2) tNil))) (gName 6) (tTest (tOp (rIn K false) (tVar 6) (tVar 3))) (tVar 6) [6]) tNil)) tNil)))))
def t_law_heard12 (K : PySem.W.Frag) (f c' : Addr) (q : Str) (tl : XK → Hp → VK → Prop) : TS :=
  (tSeq (tTryL K [(.ref (He.ga K "NotAKind"), some 1, fun a cls d => (tAsg (tLst (tCons (tC (.str "kind")) (tCons (tCall (sp_law_faceR K 6) [] E0 (tCons (tXf a cls d (He.ga K "NotAKind") "given" (tVar 1)) tNil)) tNil))) (gName 2))), (.ref (He.ga K "NoRing"), none, fun a cls d => (tAsg (tLst (tCons (tC (.str "ring")) (tCons (tC .non) tNil))) (gName 2)))] (fun W => (tAsg (tLst (tCons (tC (.str "told")) (tCons (tAct f c' q tl W) tNil))) (gName 2))))
  (tRet (tVar 2)))
section
variable {K : PySem.W.Frag} {vs : List V} {H H1 H' : Hp} {Q : VK} {E : XK}
theorem occ_mem {c : Nat} {t : List Nat} : occ [c] t = decide (c ∈ t) := by
  unfold occ
  refine decide_eq_decide.mpr ⟨fun ⟨i, _, h⟩ => ?_, fun h => ?_⟩
  · have hc : c ∈ (t.drop i).take 1 := by
      have e : (t.drop i).take 1 = [c] := h
      rw [e]
      exact List.mem_singleton.mpr rfl
    exact List.mem_of_mem_drop (List.mem_of_mem_take hc)
  · obtain ⟨i, hi, e⟩ := List.mem_iff_getElem.mp h
    refine ⟨i, by omega, ?_⟩
    rw [List.drop_eq_getElem_cons hi, e]
    rfl
theorem flat_filter {t : List Nat} : ∀ ls : List (List Nat), (∀ x ∈ ls, x.length = 1) → (ls.filter fun x => occ x t).flatten = ls.flatten.filter fun c => decide (c ∈ t)
  | [], _ => rfl
  | x :: ls, h => by
    obtain ⟨c, rfl⟩ := List.length_eq_one_iff.mp (h x List.mem_cons_self)
    have ih := flat_filter (t := t) ls fun y hy => h y (List.mem_cons_of_mem _ hy)
    rw [List.filter_cons, occ_mem, List.flatten_cons, List.filter_append, ← ih]
    by_cases hc : c ∈ t
    · simp [hc]
    · simp [hc]
theorem met_join {s t : List Nat} : ((srt (s.map fun c => [c])).filter fun x => occ x t).flatten = metS (sgn s) t := flat_filter _ fun x hx => by
  obtain ⟨c, _, rfl⟩ := List.mem_map.mp (srt_mem.mp hx)
  rfl
theorem mem_sgn {s : List Nat} {c : Nat} : c ∈ sgn s ↔ c ∈ s := (sgn_perm s).mem_iff
theorem pure_law_both12 (h : sp_law_both12 K vs H Q E) : t_law_both12 K (E1 Q) (start ["_law_abc", "_law_mate_abc", "_law_some", "_law_mate_some", "_law_common", "_law_mark", "_law_mate"] vs) H := by
  obtain ⟨s, t, p, q, rfl, ps, qs, hs, ht, gp, hl, hm, hp, hq, k⟩ := h
  have h4 := hs.2.1
  show t_law_both12 K (E1 Q) [some (vS s), some (vS t), some (.ref p), some (.ref q), none, none, none] H
  unfold t_law_both12
  walk_at "go"
  refine s_srtS (by omega) fun p1 H1 n1 e1 h1 => ?_
  walk_at "go"
  refine lc_fmL (SqL.of h1) (by rw [srt_len, List.length_map]; omega) (fun x => occ x t) (fun x => vS x) (fun x H2 C1 C0 hx e2 k1 k0 => ?_) (fun D H2 nD e2 h2 => ?_)
  · refine s_test (s_op (s_var (v := vS x) rfl (s_var (v := vS t) rfl (s_inStr (s_blQ ?_)))))
    refine s_2 (fun hb => ?_) (fun hb => ?_)
    · exact s_var rfl (k1 _ Ex.rfl hb)
    · exact k0 _ Ex.rfl hb
  have ml : (metS (sgn s) t).length ≤ 4 := Nat.le_trans (List.length_filter_le _ _) (by rw [(sgn_perm s).length_eq]; exact h4)
  refine s_join0 (SqL.of h2) (by rw [met_join]; omega) ?_
  rw [met_join]
  walk_at "go"
  refine s_srtL (ls := ps) (SqL.of ((e1.trans e2).get0 hp)) hl fun p3 H3 n3 e3 h3 => ?_
  walk_at "go"
  refine lc_fmL (SqL.of h3) (by rw [srt_len]; omega) (fun x => decide (x ∈ qs)) (fun x => vS x) (fun x H4 C1 C0 hx e4 k1 k0 => ?_) (fun D4 H4 nD4 e4 h4' => ?_)
  · refine s_test (s_op (s_var (v := vS x) rfl (s_var (v := .ref q) rfl (s_inL (ls := qs) (SqL.of ((((e1.trans e2).trans e3).trans e4).get0 hq)) (s_blQ ?_)))))
    refine s_2 (fun hb => ?_) (fun hb => ?_)
    · exact s_var rfl (k1 _ Ex.rfl hb)
    · exact k0 _ Ex.rfl hb
  walk_at "go"
  refine s_tupOf (SqL.of h4') fun o H5 no e5 h5 => ?_
  walk_at "go"
  rename_i y H6 ny e6 h6
  have e05 : Ex [] H H5 := (((e1.trans e2).trans e3).trans e4).trans e5
  exact k y o H6 (e05.free ny) (e05.trans e6) h6 (e6.get0 h5)
theorem pure_law_heard12 (m : ExmAll K ["NotAKind", "NoRing"]) {f c' : Addr} {q : Str} {tl : XK → Hp → VK → Prop} (hc : H c' = some (CodeO c' q)) (h : TT_law_heard12 K tl H Q) : t_law_heard12 K f c' q tl (E1 Q) (start ["_law_act", "e", "_law_told"] [.ref f]) H := by
  show t_law_heard12 K f c' q tl (E1 Q) [some (.ref f), none, none] H
  unfold t_law_heard12
  have ex : ∀ {x y : Str} {b : Bool}, x ∈ (["NotAKind", "NoRing"] : List Str) → y ∈ (["NotAKind", "NoRing"] : List Str) → decide (x = y) = b → PySem.W.exmOne K (.ref (He.ga K x)) (.ref (He.ga K y)) = some b := fun {x y b} hx hy hb => by
    rw [← hb]
    exact m _ hx _ hy
  refine s_seq (s_tryL ?_)
  refine s_asg (s_lst (s_cons (s_cS (l := s12Told) (by decide +kernel) (s_cons ?_))))
  refine s_act rfl hc (E1 := Heard12 K Q) (Q1 := fun v H' => ∃ y l ps, v = .ref y ∧ KindAt K H' y l ps ∧ ∀ p H2, Ex [] H' H2 → ResAt12 K H2 p (.told l ps) → Q (.ref p) H2) ?_ ?_ h
  · rintro cls dd H' (⟨rfl, d, v, s, rfl, hx, hs, k⟩ | ⟨rfl, k⟩)
    · refine ⟨true, ex (by simp) (by simp) (by decide +kernel), fun _ a ha => ?_, fun z => nomatch z⟩
      refine s_asg (s_lst (s_cons (s_cS (l := s12Kind) (by decide +kernel) (s_cons (s_call (s_cons (s_xf (s_var rfl ⟨rfl, rfl, d, _, v, rfl, hx, rfl, ?_⟩))))))))
      refine s_nil (u_faceR hs fun r H1 hr e1 f1 => s_nil (s_alloc (by show 2 ≤ sizeLine; decide) fun p H2 np e2 hp => s_gName ?_))
      exact s_ret (s_var rfl (k p H2 (e1.trans e2) ⟨r, hp, f1.ex0 e2⟩))
    · refine ⟨false, ex (by simp) (by simp) (by decide +kernel), (fun z => nomatch z), fun _ => ?_⟩
      refine ⟨true, ex (by simp) (by simp) (by decide +kernel), fun _ a ha => ?_, fun z => nomatch z⟩
      refine s_asg (s_lst (s_cons (s_cS (l := s12Ring) (by decide +kernel) (s_cons (s_c (s_nil (s_alloc (by show 2 ≤ sizeLine; decide) fun p H2 np e2 hp => s_gName ?_)))))))
      exact s_ret (s_var rfl (k p H2 e2 hp))
  · rintro v H' ⟨y, l, ps, rfl, hy, k⟩
    refine s_nil (s_alloc (by show 2 ≤ sizeLine; decide) fun p2 H2 np e2 hp => s_gName ?_)
    exact s_ret (s_var rfl (k p2 H2 e2 ⟨y, hp, hy.ex0 e2⟩))
end
end WB
namespace WB
open PySem PySem.Spec PyProof.Rows L2 LamX
section
variable {l m x : List Nat} {ps qs : List (List Nat)}
theorem sing_map : ∀ ls : List (List Nat), (∀ x ∈ ls, x.length = 1) → ls.flatten.map (fun c => [c]) = ls
  | [], _ => rfl
  | x :: ls, h => by
    obtain ⟨c, rfl⟩ := List.length_eq_one_iff.mp (h x List.mem_cons_self)
    have ih := sing_map ls fun y hy => h y (List.mem_cons_of_mem _ hy)
    rw [List.flatten_cons, List.map_append, ih]
    rfl
theorem srt_sgn (l : List Nat) : (sgn l).map (fun c => [c]) = srt (l.map fun c => [c]) := sing_map _ fun x hx => by
  obtain ⟨c, _, rfl⟩ := List.mem_map.mp (srt_mem.mp hx)
  rfl
theorem sgn_sub (h : x.Sublist (sgn l)) : sgn x = x := by
  have e : srt (x.map fun c => [c]) = x.map fun c => [c] := by
    refine srt_id (List.Pairwise.sublist (h.map _) ?_)
    rw [srt_sgn]
    exact srt_pair _
  show (srt (x.map fun c => [c])).flatten = x
  rw [e]
  exact flat1 x
theorem met_sgn : sgn (metS (sgn l) (sgn m)) = metS (sgn l) m := by
  have e : metS (sgn l) (sgn m) = metS (sgn l) m := by
    unfold metS
    refine List.filter_congr fun c _ => decide_eq_decide.mpr mem_sgn
  rw [e]
  exact sgn_sub List.filter_sublist
theorem met_srt : srt (metP (srt ps) (srt qs)) = metP (srt ps) qs := by
  have e : metP (srt ps) (srt qs) = metP (srt ps) qs := by
    unfold metP
    refine List.filter_congr fun c _ => decide_eq_decide.mpr srt_mem
  rw [e]
  exact srt_id ((srt_pair ps).sublist List.filter_sublist)
theorem mem_metS {c : Nat} : c ∈ metS (sgn l) m ↔ c ∈ l ∧ c ∈ m := by
  unfold metS
  rw [List.mem_filter, decide_eq_true_iff, mem_sgn]
theorem mem_metP {p : List Nat} : p ∈ metP (srt ps) qs ↔ p ∈ ps ∧ p ∈ qs := by
  unfold metP
  rw [List.mem_filter, decide_eq_true_iff, srt_mem]
theorem metS_com (hl : goodS l) (hm : goodS m) : metS (sgn l) m = metS (sgn m) l := by
  have n1 : (metS (sgn l) m).Nodup := ((sgn_perm l).nodup_iff.mpr hl.2.2).sublist List.filter_sublist
  have n2 : (metS (sgn m) l).Nodup := ((sgn_perm m).nodup_iff.mpr hm.2.2).sublist List.filter_sublist
  have p : (metS (sgn l) m).Perm (metS (sgn m) l) := (List.perm_ext_iff_of_nodup n1 n2).mpr fun c => by rw [mem_metS, mem_metS]; exact And.comm
  have e := sgn_of_perm p
  rw [show sgn (metS (sgn l) m) = metS (sgn l) m from sgn_sub (l := l) List.filter_sublist, show sgn (metS (sgn m) l) = metS (sgn m) l from sgn_sub (l := m) List.filter_sublist] at e
  exact e
theorem metP_com (hl : goodP l ps) (hm : goodP m qs) : metP (srt ps) qs = metP (srt qs) ps := by
  have n1 : (metP (srt ps) qs).Nodup := ((srt_perm ps).nodup_iff.mpr hl.1).sublist List.filter_sublist
  have n2 : (metP (srt qs) ps).Nodup := ((srt_perm qs).nodup_iff.mpr hm.1).sublist List.filter_sublist
  have p : (metP (srt ps) qs).Perm (metP (srt qs) ps) := (List.perm_ext_iff_of_nodup n1 n2).mpr fun c => by rw [mem_metP, mem_metP]; exact And.comm
  have e := srt_of_perm p
  rw [show srt (metP (srt ps) qs) = metP (srt ps) qs from srt_id ((srt_pair ps).sublist List.filter_sublist), show srt (metP (srt qs) ps) = metP (srt qs) ps from srt_id ((srt_pair qs).sublist List.filter_sublist)] at e
  exact e
theorem closes_met : (closesB x (srt ps) && closesB x (srt qs)) = closesB x (metP (srt ps) qs) := by
  rw [Bool.eq_iff_iff, Bool.and_eq_true, closes_iff, closes_iff, closes_iff]
  refine ⟨fun ⟨h1, h2⟩ i hi => mem_metP.mpr ⟨srt_mem.mp (h1 i hi), srt_mem.mp (h2 i hi)⟩, fun h => ⟨fun i hi => srt_mem.mpr (mem_metP.mp (h i hi)).1, fun i hi => srt_mem.mpr (mem_metP.mp (h i hi)).2⟩⟩
theorem closes_no (gp : goodP l ps) (gq : goodP m qs) (hx : 1 ≤ x.length) (e : metS (sgn l) m = []) : (closesB x (srt ps) && closesB x (srt qs)) = false := by
  rw [closes_met]
  cases h : closesB x (metP (srt ps) qs) with
  | false => rfl
  | true =>
    obtain ⟨h1, h2⟩ := mem_metP.mp (closes_iff.mp h 0 hx)
    have z := mem_metS.mpr ⟨(gp.2 _ h1).2 (x.getD 0 0) (by simp), (gq.2 _ h2).2 (x.getD 0 0) (by simp)⟩
    rw [e] at z
    cases z
end
def res12 (l m : List Nat) (ps qs : List (List Nat)) : R12 := if metS (sgn l) m = [] then .ring else .told (metS (sgn l) m) (metP (srt ps) qs)
section
variable {K : PySem.W.Frag} {vs : List V} {H H1 H' : Hp} {Q : VK} {E : XK} {a p q x y n : Addr} {l m : List Nat} {ps qs : List (List Nat)} {r : R12}
theorem KindAt.exN (e : ExN [] H H') (h : KindAt K H x l ps) : KindAt K H' x l ps := by
  obtain ⟨dx, t, h1, h2⟩ := h
  refine ⟨dx, t, e _ _ (by simp) h1 (fun _ z => by cases z), ?_⟩
  rcases h2 with (h | ⟨o, h⟩) | h
  · exact .inl (.inl (e _ _ (by simp) h (fun _ z => by cases z)))
  · exact .inl (.inr ⟨o, e _ _ (by simp) h (fun _ z => by cases z)⟩)
  · exact .inr h
theorem ResAt12.ex0 (e : Ex [] H H') (h : ResAt12 K H n r) : ResAt12 K H' n r := by
  cases r with
  | told l ps => obtain ⟨x, h1, h2⟩ := h; exact ⟨x, e.get0 h1, h2.ex0 e⟩
  | ring => exact e.get0 h
  | kind s => obtain ⟨x, h1, h2⟩ := h; exact ⟨x, e.get0 h1, h2.ex0 e⟩
theorem ResAt12.exN (e : ExN [] H H') (h : ResAt12 K H n r) : ResAt12 K H' n r := by
  cases r with
  | told l ps => obtain ⟨x, h1, h2⟩ := h; exact ⟨x, e _ _ (by simp) h1 (fun _ z => by cases z), h2.exN e⟩
  | ring => exact e _ _ (by simp) h (fun _ z => by cases z)
  | kind s => obtain ⟨x, h1, h2⟩ := h; exact ⟨x, e _ _ (by simp) h1 (fun _ z => by cases z), h2.exN e⟩
theorem lst2_pool {u v : V} (hp : PoolAt H a) (h : H n = some (.lst [u, v])) : n ≠ a := fun z => by
  obtain ⟨i, j, k, hp⟩ := hp
  rw [z, hp] at h
  cases h
theorem ResAt12.exP (hp : PoolAt H a) (e : Ex [a] H H') (h : ResAt12 K H n (res12 l m ps qs)) : ResAt12 K H' n (res12 l m ps qs) := by
  unfold res12 at h ⊢
  split at h
  · have h : H n = some (.lst [vS s12Ring, .non]) := h
    have hn := lst2_pool hp h
    rw [if_pos (by assumption)]
    exact e.get (by simpa using hn) h
  · obtain ⟨z, h1, h2⟩ := h
    have hn := lst2_pool hp h1
    rw [if_neg (by assumption)]
    exact ⟨z, e.get (by simpa using hn) h1, h2.exP hp e⟩
structure At12 (K : PySem.W.Frag) (a p q x y : Addr) (l m : List Nat) (ps qs : List (List Nat)) (G : Hp) : Prop where
  pl : PoolAt G a
  t : Tabs (tabs12 K) G
  h1 : G p = some (.lst (ps.map vS))
  h2 : G q = some (.lst (qs.map vS))
  x : KindAt K G x (sgn l) (srt ps)
  y : KindAt K G y (sgn m) (srt qs)
theorem At12.ex0 (e : Ex [] H H') (h : At12 K a p q x y l m ps qs H) : At12 K a p q x y l m ps qs H' := ⟨h.pl.ex e (by simp), Tabs.ex0 e h.t, e.get0 h.h1, e.get0 h.h2, h.x.ex0 e, h.y.ex0 e⟩
theorem At12.exP (pa : p ≠ a) (qa : q ≠ a) (e : Ex [a] H H') (hp : PoolAt H' a) (h : At12 K a p q x y l m ps qs H) : At12 K a p q x y l m ps qs H' := ⟨hp, Tabs.exP h.pl e h.t, e.get (by simpa using pa) h.h1, e.get (by simpa using qa) h.h2, h.x.exP h.pl e, h.y.exP h.pl e⟩
theorem At12.exT (e : ExtN H H') (t : Tabs (tabs12 K) H') (h : At12 K a p q x y l m ps qs H) : At12 K a p q x y l m ps qs H' := ⟨ExtN.pool e h.pl, t, e _ _ h.h1 (fun _ z => by cases z), e _ _ h.h2 (fun _ z => by cases z), h.x.exN (ExN.ofT e), h.y.exN (ExN.ofT e)⟩
theorem kd_ins (h : KindAt K H x l ps) : ∃ dx fs, H x = some (.ins (He.ga K "Kind") dx fs) := by
  obtain ⟨dx, t, h1, _⟩ := h
  exact ⟨dx, _, h1⟩
theorem goodP_sgn (h : goodP l ps) : goodP (sgn l) (srt ps) := goodP_perm (goodP_signs h fun c hc => mem_sgn.mpr hc) (srt_perm ps)
theorem s_near {i j : Nat} {σ : L2.St} (hi : σ[i]? = some (some (.ref x))) (hj : σ[j]? = some (some (.ref y))) (hl : goodS l) (gp : goodP l ps) (gq : goodP m qs) (hn : ps.length < 64) (hx : KindAt K H x (sgn l) (srt ps)) (hy : KindAt K H y (sgn m) (srt qs)) (hT : Tabs (tabs12 K) H)
    (k : ∀ n H1 H2, ExtN H H1 → Tabs (tabs12 K) H1 → Ex [] H1 H2 → ResAt12 K H2 n (res12 l m ps qs) → Q (.ref n) H2) : tLam (tabs12 K) (TT_law_heard12 K) (fun E => tOp (rBinO (He.ga K "Kind") (spx_Kind_and K) E) (tVar i) (tVar j)) σ H Q := by
  refine s_lam hT fun H1 e1 t1 => ?_
  have hx1 := hx.exN (ExN.ofT e1)
  have hy1 := hy.exN (ExN.ofT e1)
  obtain ⟨dx, fs, h1⟩ := kd_ins hx1
  obtain ⟨dy, gs, h2⟩ := kd_ins hy1
  refine s_op (s_var hi (s_var hj ⟨x, dx, fs, rfl, h1, ⟨y, dy, gs, rfl, h2⟩, ?_⟩))
  by_cases hc : metS (sgn l) m = []
  · refine .inr ⟨x, .ref y, rfl, sgn l, srt ps, hx1, goodS_sgn hl, .inr ⟨y, sgn m, srt qs, rfl, hy1, ?_, fun H2 e2 => .inr ⟨rfl, fun p H3 e3 hp => ?_⟩⟩⟩
    · have e := met_sgn (l := l) (m := m)
      rw [hc] at e
      have z := (sgn_perm (metS (sgn l) (sgn m))).length_eq
      rw [e] at z
      exact List.length_eq_zero_iff.mp z.symm
    · refine k p H1 H3 e1 t1 (e2.trans e3) ?_
      unfold res12
      rw [if_pos hc]
      exact hp
  · refine .inl ⟨x, y, rfl, sgn l, srt ps, sgn m, srt qs, hx1, hy1, goodS_sgn hl, goodP_sgn gp, goodP_sgn gq, fun z => hc ?_, by rw [srt_len]; exact hn, fun z H2 e2 hz => ⟨z, _, _, rfl, hz, fun p H3 e3 hp => ?_⟩⟩
    · rw [← met_sgn, z]
      exact List.length_eq_zero_iff.mp (sgn_perm []).length_eq
    · refine k p H1 H3 e1 t1 (e2.trans e3) ?_
      unfold res12
      rw [if_neg hc]
      rw [met_sgn, met_srt] at hp
      exact hp
end
end WB
namespace WB
open PySem PySem.Spec PyProof.Rows L2 LamX
theorem l12d_107_105_110_100 : ("kind" : Str) = S [107, 105, 110, 100] := by decide +kernel
local macro_rules | `(tactic| walk_at "lit") => `(tactic| first | exact l12d_107_105_110_100)
local macro_rules | `(tactic| walk_at "lit") => `(tactic| first | exact lit_abc | exact lit_empty)
local macro_rules | `(tactic| walk_at "nm") => `(tactic| focus first | exact List.not_mem_nil | (simp only [List.mem_singleton]; first | assumption | (exact Ne.symm (by assumption)) | (intro hz; subst hz; simp_all; done)))
local macro_rules | `(tactic| walk_at "hp") => `(tactic| first | assumption | (apply Ex.get0 (by assumption); walk_at "hp") | (apply Ex.get (by assumption); (walk_at "nm"); (walk_at "hp")))
local macro_rules | `(tactic| walk_at "sq") => `(tactic| first | assumption | (apply SqL.of; walk_at "hp") | (apply Ex.sqL (by assumption); (walk_at "nm"); (walk_at "sq")))
local macro_rules | `(tactic| walk_at "sqt") => `(tactic| first | assumption | (apply SqT.of; walk_at "hp") | (apply Ex.sqT (by assumption); (walk_at "nm"); (walk_at "sqt")))
local macro_rules | `(tactic| walk_at "sz") => `(tactic| focus ((with_reducible refine Nat.le_trans (m := 100000) ?_ (by decide)); first | omega | (simp; done) | (simp; omega)))
local macro_rules | `(tactic| walk_at "mul") => `(tactic| first | exact Or.inr ⟨by omega, by omega⟩ | exact Or.inl ⟨by omega, by omega⟩)
local macro_rules | `(tactic| walk_at "pool") => `(tactic| first | assumption | (apply PoolAt.ex (by assumption); (walk_at "nm"); (walk_at "pool")))
local macro_rules | `(tactic| walk_at "ring") => `(tactic| first | assumption | (apply RingAt.ex (by assumption); (walk_at "nm"); (walk_at "ring")))
local macro_rules | `(tactic| walk_at "st") => `(tactic| first
  | with_reducible refine s_seq ?_
  | with_reducible refine s_asg ?_
  | with_reducible refine s_gName ?_
  | with_reducible refine s_ret ?_
  | with_reducible refine s_ifS ?_
  | with_reducible refine s_next ?_
  | with_reducible refine s_op ?_
  | ((with_reducible apply s_var); exact rfl)
  | ((with_reducible apply s_cS); (walk_at "lit"))
  | with_reducible refine s_c ?_
  | with_reducible refine s_cb ?_
  | with_reducible refine s_cons ?_
  | with_reducible refine s_nil ?_
  | with_reducible refine s_un ?_
  | with_reducible refine s_call ?_
  | with_reducible refine s_test ?_
  | with_reducible refine s_tB ?_
  | with_reducible refine s_blQ ?_
  | with_reducible refine s_not ?_
  | with_reducible refine s_and ?_
  | with_reducible refine s_or ?_
  | with_reducible refine s_andV ?_
  | with_reducible refine s_orV ?_
  | with_reducible refine s_notV ?_
  | with_reducible refine s_ifE ?_
  | with_reducible refine s_chain ?_
  | ((with_reducible refine s_T ?_ ?_); (with_reducible exact rfl))
  | with_reducible refine s_nT ?_
  | with_reducible refine s_nF ?_
  | ((with_reducible refine s_F ?_ ?_); (with_reducible exact rfl))
  | ((with_reducible refine s_T ?_ ?_); assumption)
  | ((with_reducible refine s_F ?_ ?_); assumption)
  | ((with_reducible refine s_nB ?_ ?_); assumption)
  | ((with_reducible refine s_nA ?_ ?_); assumption)
  | ((with_reducible refine s_Td ?_ ?_); omega)
  | ((with_reducible refine s_Fd ?_ ?_); omega)
  | ((with_reducible refine s_nTd ?_ ?_); omega)
  | ((with_reducible refine s_nFd ?_ ?_); omega)
  | with_reducible refine s_sfld ?_
  | with_reducible refine s_addI ?_
  | with_reducible refine s_subI ?_
  | ((with_reducible refine s_mulI ?_ ?_); (walk_at "mul"))
  | ((with_reducible refine s_divI ?_ ?_); exact ⟨by omega, by omega⟩)
  | ((with_reducible refine s_modI ?_ ?_); omega)
  | ((with_reducible refine s_powI ?_ ?_); exact ⟨by decide, by decide, by decide⟩)
  | with_reducible refine s_ltI ?_
  | with_reducible refine s_leI ?_
  | with_reducible refine s_gtI ?_
  | with_reducible refine s_geI ?_
  | with_reducible refine s_negI ?_
  | with_reducible refine s_absI ?_
  | with_reducible refine s_intI ?_
  | with_reducible refine s_min2 ?_
  | with_reducible refine s_max2 ?_
  | with_reducible refine s_eqI ?_
  | with_reducible refine s_neI ?_
  | with_reducible refine s_eqS ?_
  | with_reducible refine s_neS ?_
  | with_reducible refine s_inSg ?_
  | with_reducible refine s_notInSg ?_
  | ((with_reducible refine s_addS ?_ ?_); (walk_at "sz"))
  | ((with_reducible refine s_lenS ?_ ?_); (walk_at "sz"))
  | ((with_reducible apply s_lenL); (walk_at "sq"))
  | ((with_reducible apply s_lenT); (walk_at "sqt"))
  | ((with_reducible apply s_ixL); (walk_at "sq"); exact rfl)
  | ((with_reducible apply s_ixT); (walk_at "sqt"); exact rfl)
  | with_reducible refine s_gSub ?_
  | ((with_reducible apply s_setL); (walk_at "hp"); (exact rfl); (intro _ _ _))
  | ((with_reducible refine s_alloc ?_ ?_); (walk_at "sz"); (intro _ _ _ _ _))
  | ((with_reducible refine s_divmod ?_ ?_); (exact ⟨by omega, PyProof.noPylong_small (by omega)⟩); (intro _ _ _ _ _))
  | ((with_reducible apply s_gTup); (walk_at "sqt"); (exact rfl))
  | ((with_reducible apply s_gLst); (walk_at "sq"); (exact rfl))
  | with_reducible refine s_gCons ?_
  | with_reducible refine s_gNil ?_
  | with_reducible refine s_lc ?_
  | ((with_reducible apply s_cat); (walk_at "hp"); (walk_at "hp"); (walk_at "sz"); (intro _ _ _ _ _))
  | ((with_reducible apply s_slL); (walk_at "sq"); (intro _ _ _ _ _))
  | with_reducible refine s_for ?_
  | with_reducible refine s_rng1 ?_
  | ((with_reducible refine s_rng1i ?_ ?_); (constructor <;> omega))
  | with_reducible refine s_rng2 ?_
  | ((with_reducible refine s_rng2i ?_ ?_); (refine ⟨?_, ?_, ?_, ?_⟩ <;> omega))
  | with_reducible refine s_iStr ?_
  | with_reducible refine s_iStrS ?_
  | with_reducible refine s_iList ?_
  | ((with_reducible apply s_iListA); (walk_at "sq"))
  | with_reducible refine s_iTup ?_
  | ((with_reducible apply s_iTupA); (walk_at "sqt"))
  | with_reducible refine s_sl ?_
  | with_reducible refine s_noPart ?_
  | with_reducible refine s_part ?_
  | with_reducible refine s_int1 ?_
  | ((with_reducible refine s_slS ?_ ?_); (walk_at "sz"))
  | with_reducible refine s_tup ?_
  | with_reducible refine s_lst ?_
  | with_reducible refine s_par ?_
  | with_reducible refine s_pair ?_
  | with_reducible refine s_M1 ?_
  | with_reducible refine s_isStr ?_
  | with_reducible refine s_revS ?_
  | ((with_reducible refine s_revS1 ?_ ?_); (walk_at "sz"))
  | with_reducible refine s_fldE ?_
  | with_reducible refine s_propE ?_
  | ((with_reducible refine u_draw ?_ ?_ ?_ ?_); omega; omega; (walk_at "pool"); (intro _ _ _ _ _ _))
  | ((with_reducible refine u_pool ?_); (intro _ _ _ _ _))
  | with_reducible refine u_is_integer ?_
  | with_reducible refine s_isiII ?_
  | with_reducible refine s_isiIB ?_
  | with_reducible refine s_isiSS ?_
  | ((with_reducible apply u_fldRing); assumption; (walk_at "ring"))
  | ((with_reducible apply u_textP); (walk_at "ring"))
  | ((with_reducible apply u_strRing); (walk_at "ring"))
  | ((with_reducible apply u_eqRing); (walk_at "ring"); (walk_at "ring"))
  | ((with_reducible apply u_isiRing); assumption; (walk_at "ring"))
  | ((with_reducible refine u_is_word ?_ ?_); omega; (intro _ _))
  | ((with_reducible refine u_turnings ?_ ?_); omega; (intro _ _ _ _ _))
  | with_reducible refine s_makeE ?_
  | with_reducible refine s_methE ?_)
local macro_rules | `(tactic| walk_at "go") => `(tactic| repeat (walk_at "st"))
local macro_rules | `(tactic| walk_at "exs") => `(tactic| first | exact Ex.rfl | assumption | (apply Ex.snoc (by assumption); walk_at "exs") | (apply Ex.snocW (by assumption); walk_at "exs"))
local macro_rules | `(tactic| walk_at "kind") => `(tactic| first | assumption | (apply KindAt.ex0 (by assumption); (walk_at "kind")) | (apply KindAt.exP (by assumption) (by assumption); (walk_at "kind")))
local macro_rules | `(tactic| walk_at "st") => `(tactic| first
  | with_reducible refine s_lenSet ?_
  | with_reducible refine s_drop ?_
  | with_reducible refine s_bm ?_
  | with_reducible refine s_notN ?_
  | with_reducible refine s_isN ?_
  | ((with_reducible apply s_tyL); (walk_at "hp"))
  | with_reducible refine s_enumT ?_
  | ((with_reducible apply s_enumTA); (walk_at "sqt"))
  | with_reducible refine s_lc2 ?_)
local macro_rules | `(tactic| walk_at "lit") => `(tactic| exact lit_MRK)
local macro_rules | `(tactic| walk_at "st") => `(tactic| first
  | with_reducible refine s_dcT ?_
  | with_reducible refine s_dc ?_)
local macro_rules | `(tactic| walk_at "som") => `(tactic| first | assumption | (apply SomeAt.ex (by assumption); (walk_at "nm"); (walk_at "som")))
def t_rest12d (K : PySem.W.Frag) : TS :=
  (tSeq (tAsg (tOp (rIxL K) (tLst (tCons (tCall (sp_law_odd K) [] E0 (tCons (tVar 0) tNil)) (tCons (tVar 11) (tCons (tProp (He.ga K "Kind") (sp_Kind_row K) [] E0 (tVar 5)) (tCons (tVar 1) tNil))))) (tCall (sp_law_draw K) [] E0 (tCons (tVar 0) (tCons (tC (.int 4)) tNil)))) (gName 13))
  (tSeq (tIfS (tTest (tOp (rNeS K) (tLam (tabs12 K) (TT_law_heard12 K) (fun E => (tOp (rBinVN (He.ga K "Kind") (He.ga K "Ring") (spx_Kind_and K) E K) (tVar 5) (tVar 13)))) (tLst (tCons (tC (.str "kind")) (tCons (tCall (sp_law_faceR K 6) [] E0 (tCons (tVar 13) tNil)) tNil))))) (tRet (tC (.bl false))) tNext)
  (tSeq (tAsg (tLst (tCons (tTup (tCons (tM1 (rJoin K) (tC (.str "")) (tCB (rSrt K) (tCons (tVar 1) tNil))) (tCons (tCB (rTupOf K) (tCons (tCB (rSrt K) (tCons (tVar 3) tNil)) tNil)) tNil))) (tCons (tTup (tCons (tM1 (rJoin K) (tC (.str "")) (tCB (rSrt K) (tCons (tVar 2) tNil))) (tCons (tCB (rTupOf K) (tCons (tCB (rSrt K) (tCons (tVar 4) tNil)) tNil)) tNil))) tNil))) (gName 14))
  (tRet (tAndV (tOp (rEqD K) (tLst (tCons (tProp (He.ga K "Kind") (sp_Kind_row K) [] E0 (tVar 5)) (tCons (tProp (He.ga K "Kind") (sp_Kind_row K) [] E0 (tVar 6)) tNil))) (tVar 14)) (tOp (rEqO (He.ga K "Kind") (sp_Kind_eq K) E0) (tOp (rBinO (He.ga K "Kind") (sp_Kind_and K) E0) (tVar 5) (tVar 5)) (tVar 5)))))))
section
variable {K : PySem.W.Frag} {vs : List V} {H H1 H' : Hp} {Q : VK} {E : XK} {a p q x y n f r : Addr} {l m w : List Nat} {ps qs : List (List Nat)}
def krowD (l : List Nat) (ps : List (List Nat)) : PyData := .tuple [dS l, .tuple ((ps.map vS).map scD)]
theorem dd_krow {o : Addr} (h1 : SqT K H p [vS l, .ref o]) (h2 : SqT K H o (ps.map vS)) (hl : plain l) (hn : ps.length ≤ 1000) (hp : ∀ p ∈ ps, plain p) {n : Nat} : Dd K H (n + 2) (.ref p) (krowD l ps) := by
  refine .inr (.inl ⟨p, _, _, rfl, rfl, h1, by simp, rfl, fun i x e hx he => ?_⟩)
  match i, hx, he with
  | 0, hx, he => cases hx; cases he; exact dd_scl (scS hl)
  | 1, hx, he => cases hx; cases he; exact dd_strs h2 hn hp
theorem sqT_exP {t : Addr} {xs : List V} (hp : PoolAt H a) (e : ExN [a] H H') (h : SqT K H t xs) : SqT K H' t xs := by
  obtain ⟨i, j, k, hp⟩ := hp
  have ne : ∀ u, H t = some u → (∀ ys, u ≠ .lst ys) → t ∉ [a] := fun u hu hn z => by
    rw [List.mem_singleton.mp z, hp] at hu
    exact hn _ (Option.some.inj hu).symm
  rcases h with (h | ⟨o, h⟩) | h
  · exact .inl (.inl (e _ _ (ne _ h fun _ z => by cases z) h (fun _ z => by cases z)))
  · exact .inl (.inr ⟨o, e _ _ (ne _ h fun _ z => by cases z) h (fun _ z => by cases z)⟩)
  · exact .inr h
theorem fr_told12 {w : List Nat} {d : PyData} (hw : plain w) (h : H p = some (.lst [vS w, .ref r])) (hr : Fr (fun _ => True) H 11 (.ref r) d) : Fr (fun _ => True) H 12 (.ref p) (.list [dS w, d]) := by
  refine .inr ⟨p, _, _, rfl, rfl, True.intro, h, rfl, fun i x e h1 h2 => ?_⟩
  match i, h1, h2 with
  | 0, h1, h2 => cases h1; cases h2; exact .inl (scS hw)
  | 1, h1, h2 => cases h1; cases h2; exact hr
theorem flat_vS {w : List Nat} : DFlat (vS w) (vS w) H := ⟨rfl, rfl, by
  have e : eqV (vS w) (vS w) = decide (w = w) := eqV_S
  rw [e]
  exact decide_eq_true rfl⟩
theorem s_neKind {s : Th12} {p1 p2 : Addr} (h1 : ResAt12 K H p1 (.kind s)) (h2 : ResAt12 K H p2 (.kind s)) (k : ∀ G, Ex [] H G → Q (.bl false) G) : rNeS K (.ref p1) (.ref p2) H Q := by
  obtain ⟨r1, z1, f1⟩ := h1
  obtain ⟨r2, z2, f2⟩ := h2
  cases s with
  | inl d => exact .inl (s_neFr (n := 12) (m := 12) (by decide) (fr_told12 plain_12.2.2 z1 f1) (fr_told12 plain_12.2.2 z2 f2) (k H Ex.rfl))
  | inr b =>
    refine .inr ⟨⟨p1, p2, _, _, rfl, rfl, z1, z2, Prs.cons (.inl (.inl flat_vS)) (Prs.cons (.inr ⟨r1, r2, _, _, rfl, rfl, f1, f2, Prs.cons (.inl flat_vS) (Prs.cons (.inr ⟨b, rfl, rfl⟩) Prs.nil)⟩) Prs.nil)⟩, fun G e => k G fun b o _ hb => e b o hb⟩
theorem rest12d (F : Own12 K) (hl : goodS l) (hm : goodS m) (gp : goodP l ps) (gq : goodP m qs) (np : ps.length ≤ 16) (nq : qs.length ≤ 16) (pa : p ≠ a) (qa : q ≠ a) (A : At12 K a p q x y l m ps qs H) (hr : RingAt K H r w) {x7 x8 x9 x10 x12 x13 x14 : Option V} (k : ∀ H', ExN [a] H H' → Tabs (tabs12 K) H' → Q (.bl true) H') :
    t_rest12d K (E1 Q) [some (.ref a), some (vS l), some (vS m), some (.ref p), some (.ref q), some (.ref x), some (.ref y), x7, x8, x9, x10, some (.ref r), x12, x13, x14] H := by
  unfold t_rest12d
  have hp0 := A.pl
  walk_at "go"
  refine u_odd hp0 fun v H1 e1 p1 hv => ?_
  have A1 := A.exP pa qa e1 p1
  have ra : r ≠ a := fun z => by
    obtain ⟨dx, h1⟩ := hr
    obtain ⟨i, j, k, h2⟩ := hp0
    rw [z, h2] at h1
    cases h1
  have hr1 : RingAt K H1 r w := hr.ex e1 (by simpa using ra)
  walk_at "go"
  refine u_kRow A1.x fun t o H2 n2 e2 h2 ho => ?_
  walk_at "go"
  rename_i b H3 nb e3 hb d H4 d0 d1 e4 p4
  have ba : b ≠ a := fun z => (A1.ex0 e2).pl.there (z ▸ nb)
  have hb4 := e4.get (by simpa using ba) hb
  have A3 := (A1.ex0 e2).ex0 e3
  have A4 := A3.exP pa qa e4 p4
  have hr4 : RingAt K H4 r w := ((hr1.ex e2 (by simp)).ex e3 (by simp)).ex e4 (by simpa using ra)
  have x14 : ExN [a] H1 H4 := ((ExN.of0 e2).trans (ExN.of0 e3)).trans (ExN.of e4)
  have x04 : ExN [a] H H4 := (ExN.of e1).trans x14
  have plS := plainS hl
  have plP := plainP hl gp
  have hu : ∃ u s, [v, .ref r, .ref t, vS l][d.toNat]? = some u ∧ ThAt K [a] H4 u s := by
    match h : d.toNat, (show d.toNat < 4 by omega) with
    | 0, _ =>
      obtain ⟨dv, hd⟩ := OddAt.val (K := K) hv
      exact ⟨v, .inl dv, rfl, hd.ex x14⟩
    | 1, _ => exact ⟨.ref r, .inr r, rfl, rfl, by simpa using ra, w, hr4⟩
    | 2, _ =>
      refine ⟨.ref t, .inl (krowD (sgn l) (srt ps)), rfl, .of (n := "tuple") (by decide) (by decide) fun G e => ?_⟩
      have s1 : SqT K H4 t [vS (sgn l), .ref o] := sqT_exP A3.pl (ExN.of e4) (e3.sqT (by simp) (SqT.of h2))
      have s2 : SqT K H4 o ((srt ps).map vS) := sqT_exP A3.pl (ExN.of e4) (e3.sqT (by simp) ho)
      have g1 := sqT_exP A4.pl e s1
      have g2 := sqT_exP A4.pl e s2
      exact ⟨Dd.dx _ _ _ (dd_krow (n := 3) g1 g2 plS (by rw [srt_len]; omega) plP), .tup g1⟩
    | 3, _ => exact ⟨vS l, .inl (dS l), rfl, .str_ l (by have := hl.2.1; omega) fun c hc => let_plain (isWord_in hl.1 c hc)⟩
  obtain ⟨u, s, hu, hs⟩ := hu
  refine s_ixL (v := u) (SqL.of hb4) (atI_of d0 hu) (s_gName ?_)
  clear e1 p1 hv hr1 n2 e2 h2 ho nb e3 hb hb4 d0 d1 e4 p4 hu A1 A3 hr4 x14 ba
  refine s_seq (s_ifS (s_test (s_op (s_lam A4.t fun H5 e5 t5 => ?_))))
  have A5 := A4.exT e5 t5
  have hs5 := hs.ex (ExN.ofT e5)
  obtain ⟨dx, fs, hx5⟩ := kd_ins A5.x
  have fin : ∀ (E : XK) (R : VK), Rsd K H5 E "NotAKind" "given" u → tOp (rBinVN (He.ga K "Kind") (He.ga K "Ring") (spx_Kind_and K) E K) (tVar 5) (tVar 13) [some (.ref a), some (vS l), some (vS m), some (.ref p), some (.ref q), some (.ref x), some (.ref y), x7, x8, x9, x10, some (.ref r), x12, some u, x14] H5 R := by
    intro E R hR
    have spx : spx_Kind_and K [.ref x, u] H5 R E := .inr ⟨x, u, rfl, sgn l, srt ps, A5.x, goodS_sgn hl, .inl ⟨s, hs5.nil, hR⟩⟩
    refine s_op (s_var (v := .ref x) rfl (s_var (v := u) rfl ?_))
    rcases hs5.kd F with hk | ⟨c, w', rfl, dy, hy5⟩
    · exact .inl ⟨x, dx, fs, rfl, hx5, hk, spx⟩
    · exact .inr ⟨x, dx, fs, c, dy, _, rfl, hx5, rfl, hy5, spx⟩
  refine fin _ _ fun d H6 nd e6 hd => .inl ⟨rfl, d, u, s, rfl, hd, hs5.nil.ex (ExN.of0 e6), fun p1 H7 e7 hp1 => ?_⟩
  have hs7 := (hs5.ex (ExN.of0 e6)).ex (ExN.of0 e7)
  refine s_lst (s_cons (s_cS (l := s12Kind) (by decide +kernel) (s_cons (s_call (s_cons (s_var (v := u) rfl (s_nil (u_faceR hs7 fun r2 H8 n8 e8 f8 => s_nil (s_alloc (by show 2 ≤ sizeLine; decide) fun p2 H9 n9 e9 h9 => ?_)))))))))
  refine s_neKind ((hp1.ex0 e8).ex0 e9) ⟨r2, h9, f8.ex0 e9⟩ fun G eG => s_blQ (s_F rfl (s_next ?_))
  have e5G : Ex [] H5 G := (((e6.trans e7).trans e8).trans e9).trans eG
  have AG := A5.ex0 e5G
  have x0G : ExN [a] H G := (x04.trans (ExN.ofT e5)).trans (ExN.of0 e5G)
  clear e6 e7 e8 e9 eG hp1 h9 f8 hs7 fin hx5 hs5 hd nd n8 n9 e5 t5 A5 A4 e5G hs x04
  have h4 := hl.2.1
  have h4m := hm.2.1
  walk_at "go"
  refine s_srtS (by omega) fun p1 G1 n1 e1 h1 => ?_
  walk_at "go"
  refine s_join0 (ls := srt (l.map fun c => [c])) (SqL.of h1) (by rw [flat_len1]; omega) ?_
  walk_at "go"
  refine s_srtL (ls := ps) (SqL.of (e1.get0 AG.h1)) (by omega) fun p2 G2 n2 e2 h2 => ?_
  walk_at "go"
  refine s_tupOf (SqL.of h2) fun o1 G3 n3 e3 h3 => ?_
  walk_at "go"
  rename_i t1 G4 n4 e4 h4'
  have e04 : Ex [] G G4 := ((e1.trans e2).trans e3).trans e4
  have h34 : G4 o1 = some (.tup ((srt ps).map vS)) := e4.get0 h3
  clear e1 e2 e3 e4 h1 h2 h3
  refine s_srtS (by omega) fun p5 G5 n5 e5 h5 => ?_
  walk_at "go"
  refine s_join0 (ls := srt (m.map fun c => [c])) (SqL.of h5) (by rw [flat_len1]; omega) ?_
  walk_at "go"
  refine s_srtL (ls := qs) (SqL.of ((e04.trans e5).get0 AG.h2)) (by omega) fun p6 G6 n6 e6 h6 => ?_
  walk_at "go"
  refine s_tupOf (SqL.of h6) fun o2 G7 n7 e7 h7 => ?_
  walk_at "go"
  rename_i t2 G8 n8 e8 h8 t3 G9 n9 e9 h9
  have e48 : Ex [] G4 G9 := (((e5.trans e6).trans e7).trans e8).trans e9
  have d1 : Dd K G9 3 (.ref t1) (krowD (sgn l) (srt ps)) := dd_krow (n := 1) (SqT.of (e48.get0 h4')) (SqT.of (e48.get0 h34)) plS (by rw [srt_len]; omega) plP
  have d2 : Dd K G9 3 (.ref t2) (krowD (sgn m) (srt qs)) := dd_krow (n := 1) (SqT.of (e9.get0 h8)) (SqT.of ((e8.trans e9).get0 h7)) (plainS hm) (by rw [srt_len]; omega) (plainP hm gq)
  have e09 := e04.trans e48
  have A9 := AG.ex0 e09
  clear e5 e6 e7 e8 e9 h5 h6 h7 h8 e48 h34 h4' e04
  refine u_kRow A9.x fun r1 o1' Ha na ea ha hao => ?_
  walk_at "go"
  refine u_kRow (A9.ex0 ea).y fun r2 o2' Hb nb eb hb hbo => ?_
  walk_at "go"
  rename_i t4 Hc nc ec hc
  have ebc := eb.trans ec
  have e9c := ea.trans ebc
  have d3 : Dd K Hc 3 (.ref r1) (krowD (sgn l) (srt ps)) := dd_krow (n := 1) (SqT.of (ebc.get0 ha)) (ebc.sqT (by simp) hao) plS (by rw [srt_len]; omega) plP
  have d4 : Dd K Hc 3 (.ref r2) (krowD (sgn m) (srt qs)) := dd_krow (n := 1) (SqT.of (ec.get0 hb)) (ec.sqT (by simp) hbo) (plainS hm) (by rw [srt_len]; omega) (plainP hm gq)
  have d1' := d1.ex e9c
  have d2' := d2.ex e9c
  have two : ∀ {z : Addr} {u1 u2 : V} {k1 k2 : PyData}, Hc z = some (.lst [u1, u2]) → Dd K Hc 3 u1 k1 → Dd K Hc 3 u2 k2 → Dd K Hc 4 (.ref z) (.list [k1, k2]) := fun {z u1 u2 k1 k2} hz g1 g2 => .inr (.inr ⟨z, _, _, rfl, rfl, hz, by simp, rfl, fun i x e hx he => by
    match i, hx, he with
    | 0, hx, he => cases hx; cases he; exact g1
    | 1, hx, he => cases hx; cases he; exact g2⟩)
  refine s_eqDd (n := 4) (m := 4) (by decide) (two hc d3 d4) (two (e9c.get0 h9) d1' d2') ?_
  have Ac := A9.ex0 e9c
  have x0c : ExN [a] H Hc := x0G.trans (ExN.of0 (e09.trans e9c))
  walk_at "go"
  obtain ⟨dxc, fsc, hxc⟩ := kd_ins Ac.x
  refine ⟨x, dxc, fsc, rfl, hxc, ⟨x, dxc, fsc, rfl, hxc⟩, x, x, rfl, sgn l, srt ps, sgn l, srt ps, Ac.x, Ac.x, goodS_sgn hl, goodP_sgn gp, goodP_sgn gp, ?_, by rw [srt_len]; omega, fun z Hd ed hz => ?_⟩
  · have e : metS (sgn l) (sgn l) = sgn l := List.filter_eq_self.mpr fun c hc => decide_eq_true hc
    rw [e]
    intro z
    have := (sgn_perm l).length_eq
    rw [z] at this
    have := (isWord_len hl.1).1
    simp at *
    omega
  · have e : metS (sgn l) (sgn l) = sgn l := List.filter_eq_self.mpr fun c hc => decide_eq_true hc
    have e' : metP (srt ps) (srt ps) = srt ps := List.filter_eq_self.mpr fun c hc => decide_eq_true hc
    rw [e, e', sgn_idem, srt_of_perm (srt_perm ps)] at hz
    walk_at "go"
    refine u_kEq ⟨hz, plS, plP⟩ ⟨Ac.x.ex0 ed, plS, plP⟩ ?_
    rw [decide_eq_true ⟨rfl, rfl⟩]
    exact k Hd (x0c.trans (ExN.of0 ed)) (Tabs.ex0 ed Ac.t)
end
end WB
namespace WB
open PySem PySem.Spec PyProof.Rows L2 LamX
theorem l12e_116_111_108_100 : ("told" : Str) = S [116, 111, 108, 100] := by decide +kernel
theorem l12e_107_105_110_100 : ("kind" : Str) = S [107, 105, 110, 100] := by decide +kernel
local macro_rules | `(tactic| walk_at "lit") => `(tactic| first | exact l12e_116_111_108_100 | exact l12e_107_105_110_100)
local macro_rules | `(tactic| walk_at "lit") => `(tactic| first | exact lit_abc | exact lit_empty)
local macro_rules | `(tactic| walk_at "nm") => `(tactic| focus first | exact List.not_mem_nil | (simp only [List.mem_singleton]; first | assumption | (exact Ne.symm (by assumption)) | (intro hz; subst hz; simp_all; done)))
local macro_rules | `(tactic| walk_at "hp") => `(tactic| first | assumption | (apply Ex.get0 (by assumption); walk_at "hp") | (apply Ex.get (by assumption); (walk_at "nm"); (walk_at "hp")))
local macro_rules | `(tactic| walk_at "sq") => `(tactic| first | assumption | (apply SqL.of; walk_at "hp") | (apply Ex.sqL (by assumption); (walk_at "nm"); (walk_at "sq")))
local macro_rules | `(tactic| walk_at "sqt") => `(tactic| first | assumption | (apply SqT.of; walk_at "hp") | (apply Ex.sqT (by assumption); (walk_at "nm"); (walk_at "sqt")))
local macro_rules | `(tactic| walk_at "sz") => `(tactic| focus ((with_reducible refine Nat.le_trans (m := 100000) ?_ (by decide)); first | omega | (simp; done) | (simp; omega)))
local macro_rules | `(tactic| walk_at "mul") => `(tactic| first | exact Or.inr ⟨by omega, by omega⟩ | exact Or.inl ⟨by omega, by omega⟩)
local macro_rules | `(tactic| walk_at "pool") => `(tactic| first | assumption | (apply PoolAt.ex (by assumption); (walk_at "nm"); (walk_at "pool")))
local macro_rules | `(tactic| walk_at "ring") => `(tactic| first | assumption | (apply RingAt.ex (by assumption); (walk_at "nm"); (walk_at "ring")))
local macro_rules | `(tactic| walk_at "st") => `(tactic| first
  | with_reducible refine s_seq ?_
  | with_reducible refine s_asg ?_
  | with_reducible refine s_gName ?_
  | with_reducible refine s_ret ?_
  | with_reducible refine s_ifS ?_
  | with_reducible refine s_next ?_
  | with_reducible refine s_op ?_
  | ((with_reducible apply s_var); exact rfl)
  | ((with_reducible apply s_cS); (walk_at "lit"))
  | with_reducible refine s_c ?_
  | with_reducible refine s_cb ?_
  | with_reducible refine s_cons ?_
  | with_reducible refine s_nil ?_
  | with_reducible refine s_un ?_
  | with_reducible refine s_call ?_
  | with_reducible refine s_test ?_
  | with_reducible refine s_tB ?_
  | with_reducible refine s_blQ ?_
  | with_reducible refine s_not ?_
  | with_reducible refine s_and ?_
  | with_reducible refine s_or ?_
  | with_reducible refine s_andV ?_
  | with_reducible refine s_orV ?_
  | with_reducible refine s_notV ?_
  | with_reducible refine s_ifE ?_
  | with_reducible refine s_chain ?_
  | ((with_reducible refine s_T ?_ ?_); (with_reducible exact rfl))
  | with_reducible refine s_nT ?_
  | with_reducible refine s_nF ?_
  | ((with_reducible refine s_F ?_ ?_); (with_reducible exact rfl))
  | ((with_reducible refine s_T ?_ ?_); assumption)
  | ((with_reducible refine s_F ?_ ?_); assumption)
  | ((with_reducible refine s_nB ?_ ?_); assumption)
  | ((with_reducible refine s_nA ?_ ?_); assumption)
  | ((with_reducible refine s_Td ?_ ?_); omega)
  | ((with_reducible refine s_Fd ?_ ?_); omega)
  | ((with_reducible refine s_nTd ?_ ?_); omega)
  | ((with_reducible refine s_nFd ?_ ?_); omega)
  | with_reducible refine s_sfld ?_
  | with_reducible refine s_addI ?_
  | with_reducible refine s_subI ?_
  | ((with_reducible refine s_mulI ?_ ?_); (walk_at "mul"))
  | ((with_reducible refine s_divI ?_ ?_); exact ⟨by omega, by omega⟩)
  | ((with_reducible refine s_modI ?_ ?_); omega)
  | ((with_reducible refine s_powI ?_ ?_); exact ⟨by decide, by decide, by decide⟩)
  | with_reducible refine s_ltI ?_
  | with_reducible refine s_leI ?_
  | with_reducible refine s_gtI ?_
  | with_reducible refine s_geI ?_
  | with_reducible refine s_negI ?_
  | with_reducible refine s_absI ?_
  | with_reducible refine s_intI ?_
  | with_reducible refine s_min2 ?_
  | with_reducible refine s_max2 ?_
  | with_reducible refine s_eqI ?_
  | with_reducible refine s_neI ?_
  | with_reducible refine s_eqS ?_
  | with_reducible refine s_neS ?_
  | with_reducible refine s_inSg ?_
  | with_reducible refine s_notInSg ?_
  | ((with_reducible refine s_addS ?_ ?_); (walk_at "sz"))
  | ((with_reducible refine s_lenS ?_ ?_); (walk_at "sz"))
  | ((with_reducible apply s_lenL); (walk_at "sq"))
  | ((with_reducible apply s_lenT); (walk_at "sqt"))
  | ((with_reducible apply s_ixL); (walk_at "sq"); exact rfl)
  | ((with_reducible apply s_ixT); (walk_at "sqt"); exact rfl)
  | with_reducible refine s_gSub ?_
  | ((with_reducible apply s_setL); (walk_at "hp"); (exact rfl); (intro _ _ _))
  | ((with_reducible refine s_alloc ?_ ?_); (walk_at "sz"); (intro _ _ _ _ _))
  | ((with_reducible refine s_divmod ?_ ?_); (exact ⟨by omega, PyProof.noPylong_small (by omega)⟩); (intro _ _ _ _ _))
  | ((with_reducible apply s_gTup); (walk_at "sqt"); (exact rfl))
  | ((with_reducible apply s_gLst); (walk_at "sq"); (exact rfl))
  | with_reducible refine s_gCons ?_
  | with_reducible refine s_gNil ?_
  | with_reducible refine s_lc ?_
  | ((with_reducible apply s_cat); (walk_at "hp"); (walk_at "hp"); (walk_at "sz"); (intro _ _ _ _ _))
  | ((with_reducible apply s_slL); (walk_at "sq"); (intro _ _ _ _ _))
  | with_reducible refine s_for ?_
  | with_reducible refine s_rng1 ?_
  | ((with_reducible refine s_rng1i ?_ ?_); (constructor <;> omega))
  | with_reducible refine s_rng2 ?_
  | ((with_reducible refine s_rng2i ?_ ?_); (refine ⟨?_, ?_, ?_, ?_⟩ <;> omega))
  | with_reducible refine s_iStr ?_
  | with_reducible refine s_iStrS ?_
  | with_reducible refine s_iList ?_
  | ((with_reducible apply s_iListA); (walk_at "sq"))
  | with_reducible refine s_iTup ?_
  | ((with_reducible apply s_iTupA); (walk_at "sqt"))
  | with_reducible refine s_sl ?_
  | with_reducible refine s_noPart ?_
  | with_reducible refine s_part ?_
  | with_reducible refine s_int1 ?_
  | ((with_reducible refine s_slS ?_ ?_); (walk_at "sz"))
  | with_reducible refine s_tup ?_
  | with_reducible refine s_lst ?_
  | with_reducible refine s_par ?_
  | with_reducible refine s_pair ?_
  | with_reducible refine s_M1 ?_
  | with_reducible refine s_isStr ?_
  | with_reducible refine s_revS ?_
  | ((with_reducible refine s_revS1 ?_ ?_); (walk_at "sz"))
  | with_reducible refine s_fldE ?_
  | with_reducible refine s_propE ?_
  | ((with_reducible refine u_draw ?_ ?_ ?_ ?_); omega; omega; (walk_at "pool"); (intro _ _ _ _ _ _))
  | ((with_reducible refine u_pool ?_); (intro _ _ _ _ _))
  | with_reducible refine u_is_integer ?_
  | with_reducible refine s_isiII ?_
  | with_reducible refine s_isiIB ?_
  | with_reducible refine s_isiSS ?_
  | ((with_reducible apply u_fldRing); assumption; (walk_at "ring"))
  | ((with_reducible apply u_textP); (walk_at "ring"))
  | ((with_reducible apply u_strRing); (walk_at "ring"))
  | ((with_reducible apply u_eqRing); (walk_at "ring"); (walk_at "ring"))
  | ((with_reducible apply u_isiRing); assumption; (walk_at "ring"))
  | ((with_reducible refine u_is_word ?_ ?_); omega; (intro _ _))
  | ((with_reducible refine u_turnings ?_ ?_); omega; (intro _ _ _ _ _))
  | with_reducible refine s_makeE ?_
  | with_reducible refine s_methE ?_)
local macro_rules | `(tactic| walk_at "go") => `(tactic| repeat (walk_at "st"))
local macro_rules | `(tactic| walk_at "exs") => `(tactic| first | exact Ex.rfl | assumption | (apply Ex.snoc (by assumption); walk_at "exs") | (apply Ex.snocW (by assumption); walk_at "exs"))
local macro_rules | `(tactic| walk_at "kind") => `(tactic| first | assumption | (apply KindAt.ex0 (by assumption); (walk_at "kind")) | (apply KindAt.exP (by assumption) (by assumption); (walk_at "kind")))
local macro_rules | `(tactic| walk_at "st") => `(tactic| first
  | with_reducible refine s_lenSet ?_
  | with_reducible refine s_drop ?_
  | with_reducible refine s_bm ?_
  | with_reducible refine s_notN ?_
  | with_reducible refine s_isN ?_
  | ((with_reducible apply s_tyL); (walk_at "hp"))
  | with_reducible refine s_enumT ?_
  | ((with_reducible apply s_enumTA); (walk_at "sqt"))
  | with_reducible refine s_lc2 ?_)
local macro_rules | `(tactic| walk_at "lit") => `(tactic| exact lit_MRK)
local macro_rules | `(tactic| walk_at "st") => `(tactic| first
  | with_reducible refine s_dcT ?_
  | with_reducible refine s_dc ?_)
local macro_rules | `(tactic| walk_at "som") => `(tactic| first | assumption | (apply SomeAt.ex (by assumption); (walk_at "nm"); (walk_at "som")))
def t_rest12c (K : PySem.W.Frag) : TS :=
  (tSeq (tFor (iRng1 (tCons (tC (.int 5)) tNil)) (gName 10) (tSeq (tAsg (tMake (He.ga K "Ring") (sp_Ring_init K) [] E0 (tCons (tCall (sp_law_along12 K) [] E0 (tCons (tVar 0) (tCons (tOp (rIxL K) (tLst (tCons (tVar 1) (tCons (tVar 2) tNil))) (tCall (sp_law_draw K) [] E0 (tCons (tVar 0) (tCons (tC (.int 2)) tNil)))) (tCons (tOp rCat (tVar 3) (tVar 4)) tNil)))) tNil)) (gName 11))
  (tSeq (tAsg (tAndV (tOp (rInO (He.ga K "Kind") false (sp_Kind_contains K) E0) (tVar 11) (tVar 5)) (tOp (rInO (He.ga K "Kind") false (sp_Kind_contains K) E0) (tVar 11) (tVar 6))) (gName 12))
  (tIfS (tTest (tOp rNe (tVar 12) (tAndV (tOp rEq (tOp (rIxL K) (tVar 8) (tC (.int 0))) (tC (.str "told"))) (tOp (rInO (He.ga K "Kind") false (sp_Kind_contains K) E0) (tVar 11) (tOp (rIxL K) (tVar 8) (tC (.int 1))))))) (tRet (tC (.bl false))) tNext))))
  (tSeq (tAsg (tOp (rIxL K) (tLst (tCons (tCall (sp_law_odd K) [] E0 (tCons (tVar 0) tNil)) (tCons (tVar 11) (tCons (tProp (He.ga K "Kind") (sp_Kind_row K) [] E0 (tVar 5)) (tCons (tVar 1) tNil))))) (tCall (sp_law_draw K) [] E0 (tCons (tVar 0) (tCons (tC (.int 4)) tNil)))) (gName 13))
  (tSeq (tIfS (tTest (tOp (rNeS K) (tLam (tabs12 K) (TT_law_heard12 K) (fun E => (tOp (rBinVN (He.ga K "Kind") (He.ga K "Ring") (spx_Kind_and K) E K) (tVar 5) (tVar 13)))) (tLst (tCons (tC (.str "kind")) (tCons (tCall (sp_law_faceR K 6) [] E0 (tCons (tVar 13) tNil)) tNil))))) (tRet (tC (.bl false))) tNext)
  (tSeq (tAsg (tLst (tCons (tTup (tCons (tM1 (rJoin K) (tC (.str "")) (tCB (rSrt K) (tCons (tVar 1) tNil))) (tCons (tCB (rTupOf K) (tCons (tCB (rSrt K) (tCons (tVar 3) tNil)) tNil)) tNil))) (tCons (tTup (tCons (tM1 (rJoin K) (tC (.str "")) (tCB (rSrt K) (tCons (tVar 2) tNil))) (tCons (tCB (rTupOf K) (tCons (tCB (rSrt K) (tCons (tVar 4) tNil)) tNil)) tNil))) tNil))) (gName 14))
  (tRet (tAndV (tOp (rEqD K) (tLst (tCons (tProp (He.ga K "Kind") (sp_Kind_row K) [] E0 (tVar 5)) (tCons (tProp (He.ga K "Kind") (sp_Kind_row K) [] E0 (tVar 6)) tNil))) (tVar 14)) (tOp (rEqO (He.ga K "Kind") (sp_Kind_eq K) E0) (tOp (rBinO (He.ga K "Kind") (sp_Kind_and K) E0) (tVar 5) (tVar 5)) (tVar 5))))))))
section
variable {K : PySem.W.Frag} {vs : List V} {H H1 H' : Hp} {Q : VK} {E : XK} {a p q x y n f r : Addr} {l m w : List Nat} {ps qs : List (List Nat)}
theorem s_neB12 {c d : Bool} (k : Q (.bl (c != d)) H) : rNe (.bl c) (.bl d) H Q := ⟨rfl, by
  cases c <;> cases d <;> exact k⟩
theorem s_inBoth {σ : L2.St} (h11 : σ[11]? = some (some (.ref r))) (h5 : σ[5]? = some (some (.ref x))) (h6 : σ[6]? = some (some (.ref y))) (hx : KindAt K H x l ps) (hy : KindAt K H y m qs) (hr : RingAt K H r w) (hw : w.length ≤ 600)
    (k : ∀ G, Ex [] H G → Q (.bl (closesB w ps && closesB w qs)) G) : tAndV (tOp (rInO (He.ga K "Kind") false (sp_Kind_contains K) E0) (tVar 11) (tVar 5)) (tOp (rInO (He.ga K "Kind") false (sp_Kind_contains K) E0) (tVar 11) (tVar 6)) σ H Q := by
  refine s_andV (s_op (s_var h11 (s_var h5 (u_inKindR hx hr hw fun G e => ⟨_, rfl, ?_⟩))))
  cases h : closesB w ps with
  | false =>
    rw [h] at k
    simp only [Bool.false_eq_true, if_false]
    exact k G e
  | true =>
    rw [h] at k
    simp only [Bool.false_eq_true, if_false, if_true]
    refine s_op (s_var h11 (s_var h6 (u_inKindR (hy.ex0 e) (hr.ex e (by simp)) hw fun G2 e2 => ?_)))
    simp only [Bool.false_eq_true, if_false]
    exact k G2 (e.trans e2)
theorem s_third {σ : L2.St} (h11 : σ[11]? = some (some (.ref r))) (h8 : σ[8]? = some (some (.ref n))) (gp : goodP l ps) (gq : goodP m qs) (hn : ResAt12 K H n (res12 l m ps qs)) (hr : RingAt K H r w) (h1 : 1 ≤ w.length) (hw : w.length ≤ 600)
    (k : ∀ G, Ex [] H G → Q (.bl (closesB w (srt ps) && closesB w (srt qs))) G) : tAndV (tOp rEq (tOp (rIxL K) (tVar 8) (tC (.int 0))) (tC (.str "told"))) (tOp (rInO (He.ga K "Kind") false (sp_Kind_contains K) E0) (tVar 11) (tOp (rIxL K) (tVar 8) (tC (.int 1)))) σ H Q := by
  unfold res12 at hn
  by_cases hc : metS (sgn l) m = []
  · rw [if_pos hc] at hn
    have hn : H n = some (.lst [vS s12Ring, .non]) := hn
    refine s_andV (s_op (s_op (s_var h8 (s_c (s_ixL (v := vS s12Ring) (SqL.of hn) (atI_of (by decide) rfl) (s_cS (l := s12Told) (by decide +kernel) (s_eqS ⟨_, rfl, ?_⟩)))))))
    rw [if_neg (by decide)]
    have z := k H Ex.rfl
    rw [closes_no gp gq h1 hc] at z
    exact z
  · rw [if_neg hc] at hn
    obtain ⟨z, hz, hk⟩ := hn
    refine s_andV (s_op (s_op (s_var h8 (s_c (s_ixL (v := vS s12Told) (SqL.of hz) (atI_of (by decide) rfl) (s_cS (l := s12Told) (by decide +kernel) (s_eqS ⟨_, rfl, ?_⟩)))))))
    rw [if_pos (by decide)]
    refine s_op (s_var h11 (s_op (s_var h8 (s_c (s_ixL (v := .ref z) (SqL.of hz) (atI_of (by decide) rfl) (u_inKindR hk hr hw fun G e => ?_))))))
    rw [← closes_met]
    simp only [Bool.false_eq_true, if_false]
    exact k G e
theorem rest12c (F : Own12 K) (hl : goodS l) (hm : goodS m) (gp : goodP l ps) (gq : goodP m qs) (np : ps.length ≤ 16) (nq : qs.length ≤ 16) (pa : p ≠ a) (qa : q ≠ a) (A : At12 K a p q x y l m ps qs H) (hn : ResAt12 K H n (res12 l m ps qs)) {x7 x9 x10 x11 x12 x13 x14 : Option V} (k : ∀ H', ExN [a] H H' → Tabs (tabs12 K) H' → Q (.bl true) H') :
    t_rest12c K (E1 Q) [some (.ref a), some (vS l), some (vS m), some (.ref p), some (.ref q), some (.ref x), some (.ref y), x7, some (.ref n), x9, x10, x11, x12, x13, x14] H := by
  unfold t_rest12c
  have pl := A.pl
  have hL : ∀ q ∈ ps ++ qs, q.length = 2 ∧ ∀ c ∈ q, c ∈ LET := fun z hz => by
    rcases List.mem_append.mp hz with h | h
    · exact ⟨(gp.2 z h).1, fun c hc => isWord_in hl.1 c ((gp.2 z h).2 c hc)⟩
    · exact ⟨(gq.2 z h).1, fun c hc => isWord_in hm.1 c ((gq.2 z h).2 c hc)⟩
  walk_at "go"
  refine for_rng (fun i σ G => ∃ x10 x11 x12, σ = [some (.ref a), some (vS l), some (vS m), some (.ref p), some (.ref q), some (.ref x), some (.ref y), x7, some (.ref n), x9, x10, x11, x12, x13, x14] ∧ At12 K a p q x y l m ps qs G ∧ ResAt12 K G n (res12 l m ps qs) ∧ ExN [a] H G ∧ (i = 0 ∨ ∃ r w, x11 = some (.ref r) ∧ RingAt K G r w)) ⟨_, _, _, rfl, A, hn, ExN.refl, .inl rfl⟩ ?_ ?_
  · rintro i _ G hi ⟨x10, x11, x12, rfl, AG, hnG, e0, _⟩
    have plG := AG.pl
    walk_at "go"
    rename_i b G1 nb e1 hb d G2 d0 d1 e2 p2
    have ba : b ≠ a := fun z => plG.there (z ▸ nb)
    have A1 := AG.ex0 e1
    have A2 := A1.exP pa qa e2 p2
    have hn2 := (hnG.ex0 e1).exP A1.pl e2
    have hb2 := e2.get (by simpa using ba) hb
    have x02 : ExN [a] H G2 := (e0.trans (ExN.of0 e1)).trans (ExN.of e2)
    obtain ⟨s, hs, hgs⟩ : ∃ s, [vS l, vS m][d.toNat]? = some (vS s) ∧ goodS s := by
      match h : d.toNat, (show d.toNat < 2 by omega) with
      | 0, _ => exact ⟨l, rfl, hl⟩
      | 1, _ => exact ⟨m, rfl, hm⟩
    refine s_ixL (v := vS s) (SqL.of hb2) (atI_of d0 hs) ?_
    clear e1 e2 p2 d0 d1 nb hb hb2 hs A1 hnG AG plG e0
    walk_at "go"
    refine s_cat A2.h1 A2.h2 (by simp only [List.length_map]; exact Nat.le_trans (show ps.length + qs.length ≤ 40 by omega) (by decide)) fun pc G3 n3 e3 h3 => ?_
    have pca : pc ≠ a := fun z => A2.pl.there (z ▸ n3)
    have A3 := A2.ex0 e3
    walk_at "go"
    refine ⟨a, s, pc, rfl, ps ++ qs, hgs, hL, by rw [List.length_append]; omega, pca, by rw [List.map_append]; exact h3, A3.pl, fun w G4 w1 w2 hw e4 p4 => ?_⟩
    have A4 := A3.exP pa qa e4 p4
    have hn4 := (hn2.ex0 e3).exP A3.pl e4
    have hwd : isWord w LET = true := isWord_mk w1 (by omega) hw
    have hTl := isWord_len (isWord_least hwd)
    have x04 : ExN [a] H G4 := (x02.trans (ExN.of0 e3)).trans (ExN.of e4)
    clear e3 e4 h3 n3 p4 A2 A3 hn2 x02
    walk_at "go"
    refine u_makeRing hwd fun r G5 nr e5 hr => ?_
    have A5 := A4.ex0 e5
    have hn5 := hn4.ex0 e5
    refine s_gName (s_seq (s_asg (s_inBoth rfl rfl rfl A5.x A5.y hr hTl.2 fun G6 e6 => s_gName ?_)))
    have hr6 := hr.ex e6 (by simp)
    refine s_ifS (s_test (s_op (s_var rfl (s_third (w := leastT w) rfl rfl gp gq (hn5.ex0 e6) hr6 hTl.1 hTl.2 fun G7 e7 => s_neB12 (s_blQ ?_)))))
    have e47 := (e5.trans e6).trans e7
    refine s_F (by rw [bne_self_eq_false]) (s_next ⟨_, _, _, rfl, (A5.ex0 e6).ex0 e7, (hn5.ex0 e6).ex0 e7, x04.trans (ExN.of0 e47), .inr ⟨r, leastT w, rfl, hr6.ex e7 (by simp)⟩⟩)
  · rintro _ G ⟨x10, x11, x12, rfl, AG, hnG, e0, h0⟩
    obtain ⟨r, w, rfl, hr⟩ := h0.resolve_left (by decide)
    exact rest12d F hl hm gp gq np nq pa qa AG hr fun H2 e2 t2 => k H2 (e0.trans e2) t2
end
end WB
namespace WB
open PySem PySem.Spec PyProof.Rows L2
theorem l12f_116_117_112_108_101 : ("tuple" : Str) = S [116, 117, 112, 108, 101] := by decide +kernel
theorem l12f_108_105_115_116 : ("list" : Str) = S [108, 105, 115, 116] := by decide +kernel
theorem l12f_100_105_99_116 : ("dict" : Str) = S [100, 105, 99, 116] := by decide +kernel
theorem l12f_116_114_117_116_104 : ("truth" : Str) = S [116, 114, 117, 116, 104] := by decide +kernel
theorem l12f_112_108_97_105_110 : ("plain" : Str) = S [112, 108, 97, 105, 110] := by decide +kernel
local macro_rules | `(tactic| walk_at "lit") => `(tactic| first | exact l12f_116_117_112_108_101 | exact l12f_108_105_115_116 | exact l12f_100_105_99_116 | exact l12f_116_114_117_116_104 | exact l12f_112_108_97_105_110)
local macro_rules | `(tactic| walk_at "lit") => `(tactic| first | exact lit_abc | exact lit_empty)
local macro_rules | `(tactic| walk_at "nm") => `(tactic| focus first | exact List.not_mem_nil | (simp only [List.mem_singleton]; first | assumption | (exact Ne.symm (by assumption)) | (intro hz; subst hz; simp_all; done)))
local macro_rules | `(tactic| walk_at "hp") => `(tactic| first | assumption | (apply Ex.get0 (by assumption); walk_at "hp") | (apply Ex.get (by assumption); (walk_at "nm"); (walk_at "hp")))
local macro_rules | `(tactic| walk_at "sq") => `(tactic| first | assumption | (apply SqL.of; walk_at "hp") | (apply Ex.sqL (by assumption); (walk_at "nm"); (walk_at "sq")))
local macro_rules | `(tactic| walk_at "sqt") => `(tactic| first | assumption | (apply SqT.of; walk_at "hp") | (apply Ex.sqT (by assumption); (walk_at "nm"); (walk_at "sqt")))
local macro_rules | `(tactic| walk_at "sz") => `(tactic| focus ((with_reducible refine Nat.le_trans (m := 100000) ?_ (by decide)); first | omega | (simp; done) | (simp; omega)))
local macro_rules | `(tactic| walk_at "mul") => `(tactic| first | exact Or.inr ⟨by omega, by omega⟩ | exact Or.inl ⟨by omega, by omega⟩)
local macro_rules | `(tactic| walk_at "pool") => `(tactic| first | assumption | (apply PoolAt.ex (by assumption); (walk_at "nm"); (walk_at "pool")))
local macro_rules | `(tactic| walk_at "ring") => `(tactic| first | assumption | (apply RingAt.ex (by assumption); (walk_at "nm"); (walk_at "ring")))
local macro_rules | `(tactic| walk_at "st") => `(tactic| first
  | with_reducible refine s_seq ?_
  | with_reducible refine s_asg ?_
  | with_reducible refine s_gName ?_
  | with_reducible refine s_ret ?_
  | with_reducible refine s_ifS ?_
  | with_reducible refine s_next ?_
  | with_reducible refine s_op ?_
  | ((with_reducible apply s_var); exact rfl)
  | ((with_reducible apply s_cS); (walk_at "lit"))
  | with_reducible refine s_c ?_
  | with_reducible refine s_cb ?_
  | with_reducible refine s_cons ?_
  | with_reducible refine s_nil ?_
  | with_reducible refine s_un ?_
  | with_reducible refine s_call ?_
  | with_reducible refine s_test ?_
  | with_reducible refine s_tB ?_
  | with_reducible refine s_blQ ?_
  | with_reducible refine s_not ?_
  | with_reducible refine s_and ?_
  | with_reducible refine s_or ?_
  | with_reducible refine s_andV ?_
  | with_reducible refine s_orV ?_
  | with_reducible refine s_notV ?_
  | with_reducible refine s_ifE ?_
  | with_reducible refine s_chain ?_
  | ((with_reducible refine s_T ?_ ?_); (with_reducible exact rfl))
  | with_reducible refine s_nT ?_
  | with_reducible refine s_nF ?_
  | ((with_reducible refine s_F ?_ ?_); (with_reducible exact rfl))
  | ((with_reducible refine s_T ?_ ?_); assumption)
  | ((with_reducible refine s_F ?_ ?_); assumption)
  | ((with_reducible refine s_nB ?_ ?_); assumption)
  | ((with_reducible refine s_nA ?_ ?_); assumption)
  | ((with_reducible refine s_Td ?_ ?_); omega)
  | ((with_reducible refine s_Fd ?_ ?_); omega)
  | ((with_reducible refine s_nTd ?_ ?_); omega)
  | ((with_reducible refine s_nFd ?_ ?_); omega)
  | with_reducible refine s_sfld ?_
  | with_reducible refine s_addI ?_
  | with_reducible refine s_subI ?_
  | ((with_reducible refine s_mulI ?_ ?_); (walk_at "mul"))
  | ((with_reducible refine s_divI ?_ ?_); exact ⟨by omega, by omega⟩)
  | ((with_reducible refine s_modI ?_ ?_); omega)
  | ((with_reducible refine s_powI ?_ ?_); exact ⟨by decide, by decide, by decide⟩)
  | with_reducible refine s_ltI ?_
  | with_reducible refine s_leI ?_
  | with_reducible refine s_gtI ?_
  | with_reducible refine s_geI ?_
  | with_reducible refine s_negI ?_
  | with_reducible refine s_absI ?_
  | with_reducible refine s_intI ?_
  | with_reducible refine s_min2 ?_
  | with_reducible refine s_max2 ?_
  | with_reducible refine s_eqI ?_
  | with_reducible refine s_neI ?_
  | with_reducible refine s_eqS ?_
  | with_reducible refine s_neS ?_
  | with_reducible refine s_inSg ?_
  | with_reducible refine s_notInSg ?_
  | ((with_reducible refine s_addS ?_ ?_); (walk_at "sz"))
  | ((with_reducible refine s_lenS ?_ ?_); (walk_at "sz"))
  | ((with_reducible apply s_lenL); (walk_at "sq"))
  | ((with_reducible apply s_lenT); (walk_at "sqt"))
  | ((with_reducible apply s_ixL); (walk_at "sq"); exact rfl)
  | ((with_reducible apply s_ixT); (walk_at "sqt"); exact rfl)
  | with_reducible refine s_gSub ?_
  | ((with_reducible apply s_setL); (walk_at "hp"); (exact rfl); (intro _ _ _))
  | ((with_reducible refine s_alloc ?_ ?_); (walk_at "sz"); (intro _ _ _ _ _))
  | ((with_reducible refine s_divmod ?_ ?_); (exact ⟨by omega, PyProof.noPylong_small (by omega)⟩); (intro _ _ _ _ _))
  | ((with_reducible apply s_gTup); (walk_at "sqt"); (exact rfl))
  | ((with_reducible apply s_gLst); (walk_at "sq"); (exact rfl))
  | with_reducible refine s_gCons ?_
  | with_reducible refine s_gNil ?_
  | with_reducible refine s_lc ?_
  | ((with_reducible apply s_cat); (walk_at "hp"); (walk_at "hp"); (walk_at "sz"); (intro _ _ _ _ _))
  | ((with_reducible apply s_slL); (walk_at "sq"); (intro _ _ _ _ _))
  | with_reducible refine s_for ?_
  | with_reducible refine s_rng1 ?_
  | ((with_reducible refine s_rng1i ?_ ?_); (constructor <;> omega))
  | with_reducible refine s_rng2 ?_
  | ((with_reducible refine s_rng2i ?_ ?_); (refine ⟨?_, ?_, ?_, ?_⟩ <;> omega))
  | with_reducible refine s_iStr ?_
  | with_reducible refine s_iStrS ?_
  | with_reducible refine s_iList ?_
  | ((with_reducible apply s_iListA); (walk_at "sq"))
  | with_reducible refine s_iTup ?_
  | ((with_reducible apply s_iTupA); (walk_at "sqt"))
  | with_reducible refine s_sl ?_
  | with_reducible refine s_noPart ?_
  | with_reducible refine s_part ?_
  | with_reducible refine s_int1 ?_
  | ((with_reducible refine s_slS ?_ ?_); (walk_at "sz"))
  | with_reducible refine s_tup ?_
  | with_reducible refine s_lst ?_
  | with_reducible refine s_par ?_
  | with_reducible refine s_pair ?_
  | with_reducible refine s_M1 ?_
  | with_reducible refine s_isStr ?_
  | with_reducible refine s_revS ?_
  | ((with_reducible refine s_revS1 ?_ ?_); (walk_at "sz"))
  | with_reducible refine s_fldE ?_
  | with_reducible refine s_propE ?_
  | ((with_reducible refine u_draw ?_ ?_ ?_ ?_); omega; omega; (walk_at "pool"); (intro _ _ _ _ _ _))
  | ((with_reducible refine u_pool ?_); (intro _ _ _ _ _))
  | with_reducible refine u_is_integer ?_
  | with_reducible refine s_isiII ?_
  | with_reducible refine s_isiIB ?_
  | with_reducible refine s_isiSS ?_
  | ((with_reducible apply u_fldRing); assumption; (walk_at "ring"))
  | ((with_reducible apply u_textP); (walk_at "ring"))
  | ((with_reducible apply u_strRing); (walk_at "ring"))
  | ((with_reducible apply u_eqRing); (walk_at "ring"); (walk_at "ring"))
  | ((with_reducible apply u_isiRing); assumption; (walk_at "ring"))
  | ((with_reducible refine u_is_word ?_ ?_); omega; (intro _ _))
  | ((with_reducible refine u_turnings ?_ ?_); omega; (intro _ _ _ _ _))
  | with_reducible refine s_makeE ?_
  | with_reducible refine s_methE ?_)
local macro_rules | `(tactic| walk_at "go") => `(tactic| repeat (walk_at "st"))
local macro_rules | `(tactic| walk_at "exs") => `(tactic| first | exact Ex.rfl | assumption | (apply Ex.snoc (by assumption); walk_at "exs") | (apply Ex.snocW (by assumption); walk_at "exs"))
local macro_rules | `(tactic| walk_at "kind") => `(tactic| first | assumption | (apply KindAt.ex0 (by assumption); (walk_at "kind")) | (apply KindAt.exP (by assumption) (by assumption); (walk_at "kind")))
local macro_rules | `(tactic| walk_at "st") => `(tactic| first
  | with_reducible refine s_lenSet ?_
  | with_reducible refine s_drop ?_
  | with_reducible refine s_bm ?_
  | with_reducible refine s_notN ?_
  | with_reducible refine s_isN ?_
  | ((with_reducible apply s_tyL); (walk_at "hp"))
  | with_reducible refine s_enumT ?_
  | ((with_reducible apply s_enumTA); (walk_at "sqt"))
  | with_reducible refine s_lc2 ?_)
def t_law_faceR (K : PySem.W.Frag) (n : Nat) : TS :=
  (tSeq (tIfS (tB (tCB (rIsi K) (tCons (tVar 0) (tCons (tC (.ty "tuple")) tNil)))) (tRet (tOp rCat (tLst (tCons (tC (.str "tuple")) tNil)) (tLc (iTup K (tVar 0)) (gName 1) tYes (tCall (sp_law_faceR K n) [] E0 (tCons (tVar 1) tNil)) [1]))) tNext)
  (tSeq (tIfS (tB (tCB (rIsi K) (tCons (tVar 0) (tCons (tC (.ty "list")) tNil)))) (tRet (tOp rCat (tLst (tCons (tC (.str "list")) tNil)) (tLc (iList K (tVar 0)) (gName 1) tYes (tCall (sp_law_faceR K n) [] E0 (tCons (tVar 1) tNil)) [1]))) tNext)
  (tSeq (tIfS (tB (tCB (rIsi K) (tCons (tVar 0) (tCons (tC (.ty "dict")) tNil)))) (tRet (tOp rCat (tLst (tCons (tC (.str "dict")) tNil)) (tLockE (tLc (iKeys (tVar 0)) (gName 2) tYes (tLst (tCons (tCall (sp_law_faceR K n) [] E0 (tCons (tVar 2) tNil)) (tCons (tCall (sp_law_faceR K n) [] E0 (tCons (tDGet (tVar 0) (tVar 2)) tNil)) tNil))) [2])))) tNext)
  (tRet (tLst (tCons (tIf (tB (tCB (rIsi K) (tCons (tVar 0) (tCons (tC (.ty "bool")) tNil)))) (tC (.str "truth")) (tC (.str "plain"))) (tCons (tVar 0) tNil)))))))
section
variable {K : PySem.W.Frag} {vs : List V} {H : Hp} {Q : VK} {E : XK}
theorem fr_pairX {F : Addr → Prop} {n : Nat} {r : Addr} {v : V} {d : PyData} (hs : Scal v d) (f : F r) (h : H r = some (.lst [vS (tagOf d), v])) : Fr F H (2 * n + 1) (.ref r) (faceX n d) := by
  rw [face_scalX hs]
  have ht := tag_plain hs
  refine Fr.le (n := 1) (by omega) (.inr ⟨r, _, _, rfl, rfl, f, h, rfl, fun i x e h1 h2 => ?_⟩)
  match i, h1, h2 with
  | 0, h1, h2 => cases h1; cases h2; exact .inr (.inr (.inr ⟨_, ht, rfl, rfl⟩))
  | 1, h1, h2 => cases h1; cases h2; exact hs
theorem fr_partsX {F : Addr → Prop} {m : Nat} {r : Addr} {t : List Nat} {ys : List V} {ds : List PyData} {g : PyData → PyData} (ht : plain t) (f : F r) (h : H r = some (.lst ([vS t] ++ ys))) (hl : ys.length = ds.length) (hf : ∀ (i : Nat) y e, ys[i]? = some y → ds[i]? = some e → Fr F H (m + 1) y (g e)) :
    Fr F H (m + 1 + 1) (.ref r) (.list (dS t :: ds.map g)) := by
  refine .inr ⟨r, _, _, rfl, rfl, f, h, by simp [hl], fun i x e h1 h2 => ?_⟩
  match i, h1, h2 with
  | 0, h1, h2 => cases h1; cases h2; exact .inl (.inr (.inr (.inr ⟨_, ht, rfl, rfl⟩)))
  | i + 1, h1, h2 =>
    rw [List.getElem?_cons_succ, List.getElem?_map] at h2
    obtain ⟨e', h3, rfl⟩ := Option.map_eq_some_iff.mp h2
    exact hf i x e' h1 h3
theorem lc_facesR {J : It} {G : Hp → Prop} {xs : List V} {ds : List PyData} {n j : Nat} {σ : St} {E : XK} (w : Walk J xs.length G (YAt xs)) (hG : ∀ H1, Ex [] H H1 → G H1) (hn : xs.length ≤ 1000) (hj : j < σ.length) (hl : ds.length = xs.length)
    (hd : ∀ (i : Nat) x e, xs[i]? = some x → ds[i]? = some e → Dx K H n x e)
    (k : ∀ D H' ys, H D = none → Ex [] H H' → H' D = some (.lst ys) → ys.length = ds.length → (∀ (i : Nat) y e, ys[i]? = some y → ds[i]? = some e → Fr (fun a => H a = none ∧ a ≠ D) H' (2 * n + 1) y (faceX n e)) → Q (.ref D) H') :
    LcW J (gName j) tYes (tCall (sp_law_faceR K (n + 1)) [] E (tCons (tVar j) tNil)) [j] σ H Q := by
  intro D hD
  refine lc_it w (fun i H1 => Ex [] H H1 ∧ ∃ ys, H1 D = some (.lst ys) ∧ ys.length = i ∧ ∀ (m : Nat) y e, ys[m]? = some y → ds[m]? = some e → Fr (fun a => H a = none ∧ a ≠ D) H1 (2 * n + 1) y (faceX n e)) ⟨Ex.new hD, [], upd_same, rfl, by simp⟩ (fun i H1 _ h => hG H1 h.1) ?_ ?_
  · rintro i x H1 H2 hi ⟨e, ys, hy, hyl, hf⟩ ⟨rfl, hx⟩
    refine ⟨wipe1 _ _ _, ?_⟩
    refine s_yes ?_
    refine s_T rfl ?_
    refine s_call ?_
    refine s_cons ?_
    refine s_var (v := x) (by rw [List.getElem?_set_self (by simp [wipe]; exact hj)]) ?_
    refine s_nil ?_
    have hid : i < ds.length := by omega
    refine faceR_of (u_faceX (d := ds[i]) (Dx.ex e n x _ (hd i x _ hx (List.getElem?_eq_getElem hid))) fun r H5 hr e5 hfr => ?_)
    have hDn : H2 D ≠ none := by rw [hy]; simp
    refine ⟨ys, e5.get0 hy, by rw [hyl]; exact Nat.lt_of_lt_of_le hi (Nat.le_trans hn (by decide)), ?_, ys ++ [.ref r], upd_same, by simp [hyl], ?_⟩
    · intro b o nb hb
      rw [upd_ne (ne_of_none hb hD)]
      exact e5 b o nb (e b o nb hb)
    · intro m y e' hm he
      by_cases hmi : m < i
      · rw [List.getElem?_append_left (by omega)] at hm
        refine Fr.mono (fun a h => h) (fun a zs fa ha => ?_) _ _ _ (hf m y e' hm he)
        rw [upd_ne fa.2]
        exact e5.get0 ha
      · have hmi' : m = i := by
          have := (List.getElem?_eq_some_iff.mp hm).1
          simp at this
          omega
        subst hmi'
        rw [List.getElem?_append_right (by omega)] at hm
        have : y = .ref r := by
          simp [hyl] at hm
          exact hm.symm
        subst this
        rw [List.getElem?_eq_getElem hid] at he
        cases he
        refine Fr.mono (fun a h => ⟨e.free h, fun z => hDn (z ▸ h)⟩) (fun a zs fa ha => ?_) _ _ _ hfr
        rw [upd_ne (show a ≠ D from fun z => hDn (z ▸ fa))]
        exact ha
  · rintro H1 ⟨e, ys, hy, hyl, hf⟩
    exact k D H1 ys hD e hy (by omega) hf
theorem pure_law_faceR (F12 : Own12 K) {n : Nat} (h : sp_law_faceR K (n + 1) vs H Q E) : t_law_faceR K n (E1 Q) (start ["_law_thing", "_law_part", "_law_key"] vs) H := by
  obtain ⟨v, rfl, ⟨d, hd, k⟩ | ⟨a, w, rfl, hw, k⟩⟩ := h
  case inr =>
    obtain ⟨dx, hx⟩ := hw
    have nk : ∀ {n : String} {Q' : VK}, n ∈ (["tuple", "list", "dict", "bool"] : List String) → Q' (.bl false) H → rIsi K [.ref a, .ty n] H Q' := fun {n Q'} hn q => ⟨_, _, _, _, _, rfl, .ty _, F12.rk.ty H a dx _ hx, F12.kt n hn, q⟩
    show t_law_faceR K n (E1 Q) [some (.ref a), none, none] H
    unfold t_law_faceR
    walk_at "go"
    refine nk (by decide) ?_
    walk_at "go"
    refine nk (by decide) ?_
    walk_at "go"
    refine nk (by decide) ?_
    walk_at "go"
    refine nk (by decide) ?_
    walk_at "go"
    rename_i r H' nr e h
    exact k r H' nr e h
  show t_law_faceR K n (E1 Q) [some v, none, none] H
  have scal : Scal v d → t_law_faceR K n (E1 Q) [some v, none, none] H := by
    intro hs
    have hs' := hs
    unfold t_law_faceR
    rcases hs with ⟨rfl, rfl⟩ | ⟨b, rfl, rfl⟩ | ⟨i, rfl, rfl⟩ | ⟨l, hl, rfl, rfl⟩
    · walk_at "go"
      refine s_isiK Kd.non (b := false) (by decide +kernel) ?_
      walk_at "go"
      refine s_isiK Kd.non (b := false) (by decide +kernel) ?_
      walk_at "go"
      refine s_isiK Kd.non (b := false) (by decide +kernel) ?_
      walk_at "go"
      refine s_isiK Kd.non (b := false) (by decide +kernel) ?_
      walk_at "go"
      rename_i r H' nr e h
      exact k r H' nr e (fr_pairX hs' nr h)
    · walk_at "go"
      refine s_isiK Kd.bl (b := false) (by decide +kernel) ?_
      walk_at "go"
      refine s_isiK Kd.bl (b := false) (by decide +kernel) ?_
      walk_at "go"
      refine s_isiK Kd.bl (b := false) (by decide +kernel) ?_
      walk_at "go"
      refine s_isiK Kd.bl (b := true) (by decide +kernel) ?_
      walk_at "go"
      rename_i r H' nr e h
      exact k r H' nr e (fr_pairX hs' nr h)
    · walk_at "go"
      refine s_isiK Kd.int (b := false) (by decide +kernel) ?_
      walk_at "go"
      refine s_isiK Kd.int (b := false) (by decide +kernel) ?_
      walk_at "go"
      refine s_isiK Kd.int (b := false) (by decide +kernel) ?_
      walk_at "go"
      rename_i r H' nr e h
      exact k r H' nr e (fr_pairX hs' nr h)
    · walk_at "go"
      refine s_isiK Kd.str (b := false) (by decide +kernel) ?_
      walk_at "go"
      refine s_isiK Kd.str (b := false) (by decide +kernel) ?_
      walk_at "go"
      refine s_isiK Kd.str (b := false) (by decide +kernel) ?_
      walk_at "go"
      refine s_isiK Kd.str (b := false) (by decide +kernel) ?_
      walk_at "go"
      rename_i r H' nr e h
      exact k r H' nr e (fr_pairX hs' nr h)
  cases n with
  | zero => exact scal hd
  | succ n =>
    rcases hd with hd | ⟨a, xs, ds, rfl, rfl, h1, hn, hl, h2⟩ | ⟨a, xs, ds, rfl, rfl, h1, hn, hl, h2⟩ | ⟨a, rfl, rfl, h1⟩ | ⟨a, y, e0, rfl, rfl, h1, h2⟩
    · exact scal hd
    · unfold t_law_faceR
      walk_at "go"
      refine s_isiK (Kd.tup h1) (b := true) (by decide +kernel) ?_
      walk_at "go"
      rename_i q1 H1 n1 e1 h3
      refine lc_facesR (ds := ds) (n := n) (walk_tup (xs := xs)) (fun H2 e2 => (e1.trans e2).sqT (by simp) h1) hn (by simp) hl (fun i x e hx he => Dx.ex e1 _ _ _ (h2 i x e hx he)) fun D H2 ys nD e2 hD hyl hf => ?_
      walk_at "go"
      rename_i p H3 np e3 hp
      have fr : H p = none := e1.free (e2.free np)
      refine k p H3 fr ((e1.trans e2).trans e3) (Fr.le (n := 2 * n + 2) (by omega) (fr_partsX plain_tags.1 fr hp hyl fun i y e hy he => ?_))
      exact Fr.mono (fun a h => e1.free h.1) (fun a zs _ ha => e3.get0 ha) _ _ _ (hf i y e hy he)
    · unfold t_law_faceR
      walk_at "go"
      refine s_isiK (Kd.lst h1) (b := false) (by decide +kernel) ?_
      walk_at "go"
      refine s_isiK (Kd.lst h1) (b := true) (by decide +kernel) ?_
      walk_at "go"
      rename_i q1 H1 n1 e1 h3
      refine lc_facesR (ds := ds) (n := n) (walk_list (xs := xs)) (fun H2 e2 => SqL.of ((e1.trans e2).get0 h1)) hn (by simp) hl (fun i x e hx he => Dx.ex e1 _ _ _ (h2 i x e hx he)) fun D H2 ys nD e2 hD hyl hf => ?_
      walk_at "go"
      rename_i p H3 np e3 hp
      have fr : H p = none := e1.free (e2.free np)
      refine k p H3 fr ((e1.trans e2).trans e3) (Fr.le (n := 2 * n + 2) (by omega) (fr_partsX plain_tags.2.1 fr hp hyl fun i y e hy he => ?_))
      exact Fr.mono (fun a h => e1.free h.1) (fun a zs _ ha => e3.get0 ha) _ _ _ (hf i y e hy he)
    · unfold t_law_faceR
      walk_at "go"
      refine s_isiK (Kd.dict h1) (b := false) (by decide +kernel) ?_
      walk_at "go"
      refine s_isiK (Kd.dict h1) (b := false) (by decide +kernel) ?_
      walk_at "go"
      refine s_isiK (Kd.dict h1) (b := true) (by decide +kernel) ?_
      walk_at "go"
      rename_i q1 H1 n1 e1 h3
      have ha := e1.get0 h1
      refine s_lockE ha fun od => ?_
      refine s_lc ?_
      refine s_iKeys ?_
      refine s_var rfl ?_
      refine ⟨a, od, rfl, .inl ⟨[], upd_same, ?_⟩⟩
      refine lc_none upd_same fun D hD => ?_
      have na : a ≠ D := fun z => by
        rw [z, upd_same] at hD
        cases hD
      have hD1 : H1 D = none := by
        rw [upd_ne (Ne.symm na)] at hD
        exact hD
      refine ⟨by rw [upd_ne na, upd_same], ?_⟩
      have e2 : Ex [] H1 (upd (upd (upd H1 a (.frz od (.dK []))) D (.lst [])) a (.dK [])) := lock_ex ha (Ex.new hD)
      have hDl : upd (upd (upd H1 a (.frz od (.dK []))) D (.lst [])) a (.dK []) D = some (.lst []) := by rw [upd_ne (Ne.symm na), upd_same]
      generalize upd (upd (upd H1 a (.frz od (.dK []))) D (.lst [])) a (.dK []) = H2 at e2 hDl ⊢
      walk_at "go"
      rename_i p H3 np e3 hp
      have fr : H p = none := e1.free (e2.free np)
      exact k p H3 fr ((e1.trans e2).trans e3) (Fr.le (n := 0 + 1 + 1) (by omega) (fr_partsX (g := fun e => e) (ds := []) plain_dict fr hp rfl (by simp)))
    · unfold t_law_faceR
      walk_at "go"
      refine s_isiK (Kd.dict h1) (b := false) (by decide +kernel) ?_
      walk_at "go"
      refine s_isiK (Kd.dict h1) (b := false) (by decide +kernel) ?_
      walk_at "go"
      refine s_isiK (Kd.dict h1) (b := true) (by decide +kernel) ?_
      walk_at "go"
      rename_i q1 H1 n1 e1 h3
      have ha := e1.get0 h1
      refine s_lockE ha fun od => ?_
      refine s_lc ?_
      refine s_iKeys ?_
      refine s_var rfl ?_
      refine ⟨a, od, rfl, .inl ⟨[(kA, y)], upd_same, ?_⟩⟩
      refine lc_one upd_same fun D hD C kC => ?_
      have na : a ≠ D := fun z => by
        rw [z, upd_same] at hD
        cases hD
      have hD1 : H1 D = none := by
        rw [upd_ne (Ne.symm na)] at hD
        exact hD
      have hDa : upd (upd H1 a (.frz od (.dK [(kA, y)]))) D (.lst []) a = some (.frz od (.dK [(kA, y)])) := by rw [upd_ne na, upd_same]
      have hDl : upd (upd H1 a (.frz od (.dK [(kA, y)]))) D (.lst []) D = some (.lst []) := upd_same
      have hy : Dd K (upd (upd H1 a (.frz od (.dK [(kA, y)]))) D (.lst [])) n y e0 := Dd.ex (Ex.new hD) _ _ _ (Dd.lock ha _ _ _ (Dd.ex e1 _ _ _ h2))
      have eF : Ex [] (upd H1 a (.frz od (.dK [(kA, y)]))) (upd (upd H1 a (.frz od (.dK [(kA, y)]))) D (.lst [])) := Ex.new hD
      generalize upd (upd H1 a (.frz od (.dK [(kA, y)]))) D (.lst []) = H2 at hDa hDl hy eF ⊢
      walk_at "go"
      refine faceR_of (u_faceX (d := dS [97]) (Dd.dx _ _ _ ?_) fun r1 H3 nr1 e3 f1 => ?_)
      · cases n with
        | zero => exact .inr (.inr (.inr ⟨[97], plain_a, rfl, rfl⟩))
        | succ n => exact .inl (.inr (.inr (.inr ⟨[97], plain_a, rfl, rfl⟩)))
      walk_at "go"
      refine s_var rfl ?_
      refine s_var rfl ?_
      refine ⟨a, y, rfl, .inl ⟨[(kA, y)], kA, .inr ⟨od, e3.get0 hDa⟩, rfl, rfl⟩, ?_⟩
      walk_at "go"
      refine faceR_of (u_faceX (d := e0) (Dx.ex e3 _ _ _ (Dd.dx _ _ _ hy)) fun r2 H4 nr2 e4 f2 => ?_)
      walk_at "go"
      rename_i r3 H5 nr3 e5 hr3
      have eD : Ex [] H2 H5 := (e3.trans e4).trans e5
      refine kC _ _ (eD.get0 hDl) (eD.get0 hDa) ?_
      have nD : H2 D ≠ none := by rw [hDl]; simp
      have n3 : r3 ≠ D := fun z => nD (z ▸ (e3.trans e4).free nr3)
      have e6 : Ex [] H1 (upd (upd H5 D (.lst [.ref r3])) a (.dK [(kA, y)])) := by
        refine lock_ex (f := .frz od (.dK [(kA, y)])) ha ?_
        intro b o nb hb
        rw [upd_ne (ne_of_none hb hD)]
        exact eD b o nb (eF b o nb hb)
      refine ⟨by rw [upd_ne na]; exact eD.get0 hDa, ?_⟩
      have nDa : D ≠ a := Ne.symm na
      have hD6 : upd (upd H5 D (.lst [.ref r3])) a (.dK [(kA, y)]) D = some (.lst [.ref r3]) := by rw [upd_ne nDa, upd_same]
      have keep : ∀ c zs, H2 c = none → H5 c = some (.lst zs) → upd (upd H5 D (.lst [.ref r3])) a (.dK [(kA, y)]) c = some (.lst zs) := fun c zs hc h5 => by
        have c1 : c ≠ a := fun z => by rw [z, hDa] at hc; cases hc
        have c2 : c ≠ D := fun z => nD (by rw [← z]; exact hc)
        rw [upd_ne c1, upd_ne c2]
        exact h5
      have h13 : ∀ c, H2 c = none → H c = none := fun c hc => by
        have h' := eF.free hc
        by_cases hca : c = a
        · rw [hca, upd_same] at h'
          cases h'
        · rw [upd_ne hca] at h'
          exact e1.free h'
      have hr3' := keep r3 _ ((e3.trans e4).free nr3) hr3
      have g1 := Fr.mono (F' := fun c => H2 c = none) (fun c h => h) (fun c zs hc h => keep c zs hc (e5.get0 (e4.get0 h))) _ _ _ f1
      have g2 := Fr.mono (F' := fun c => H2 c = none) (fun c h => e3.free h) (fun c zs hc h => keep c zs (e3.free hc) (e5.get0 h)) _ _ _ f2
      generalize upd (upd H5 D (.lst [.ref r3])) a (.dK [(kA, y)]) = H6 at e6 hD6 hr3' g1 g2 ⊢
      walk_at "go"
      rename_i p H7 np e7 hp
      have fr : H p = none := e1.free (e6.free np)
      refine k p H7 fr ((e1.trans e6).trans e7) ?_
      refine fr_partsX (m := 2 * n + 1) (g := fun z => z) (ds := [.list [faceX n (dS [97]), faceX n e0]]) plain_dict fr hp rfl fun i z w h5 h6 => ?_
      match i, h5, h6 with
      | 0, h5, h6 =>
        cases h5; cases h6
        refine .inr ⟨r3, _, _, rfl, rfl, h13 _ ((e3.trans e4).free nr3), e7.get0 hr3', rfl, fun j z w h8 h9 => ?_⟩
        match j, h8, h9 with
        | 0, h8, h9 => cases h8; cases h9; exact Fr.mono (fun c h => h13 c h) (fun c zs _ h => e7.get0 h) _ _ _ g1
        | 1, h8, h9 => cases h8; cases h9; exact Fr.mono (fun c h => h13 c h) (fun c zs _ h => e7.get0 h) _ _ _ g2
end
end WB
namespace WB
open PySem PySem.Spec PyProof.Rows L2
local macro_rules | `(tactic| walk_at "lit") => `(tactic| first | exact lit_abc | exact lit_empty)
local macro_rules | `(tactic| walk_at "nm") => `(tactic| focus first | exact List.not_mem_nil | (simp only [List.mem_singleton]; first | assumption | (exact Ne.symm (by assumption)) | (intro hz; subst hz; simp_all; done)))
local macro_rules | `(tactic| walk_at "hp") => `(tactic| first | assumption | (apply Ex.get0 (by assumption); walk_at "hp") | (apply Ex.get (by assumption); (walk_at "nm"); (walk_at "hp")))
local macro_rules | `(tactic| walk_at "sq") => `(tactic| first | assumption | (apply SqL.of; walk_at "hp") | (apply Ex.sqL (by assumption); (walk_at "nm"); (walk_at "sq")))
local macro_rules | `(tactic| walk_at "sqt") => `(tactic| first | assumption | (apply SqT.of; walk_at "hp") | (apply Ex.sqT (by assumption); (walk_at "nm"); (walk_at "sqt")))
local macro_rules | `(tactic| walk_at "sz") => `(tactic| focus ((with_reducible refine Nat.le_trans (m := 100000) ?_ (by decide)); first | omega | (simp; done) | (simp; omega)))
local macro_rules | `(tactic| walk_at "mul") => `(tactic| first | exact Or.inr ⟨by omega, by omega⟩ | exact Or.inl ⟨by omega, by omega⟩)
local macro_rules | `(tactic| walk_at "pool") => `(tactic| first | assumption | (apply PoolAt.ex (by assumption); (walk_at "nm"); (walk_at "pool")))
local macro_rules | `(tactic| walk_at "ring") => `(tactic| first | assumption | (apply RingAt.ex (by assumption); (walk_at "nm"); (walk_at "ring")))
local macro_rules | `(tactic| walk_at "st") => `(tactic| first
  | with_reducible refine s_seq ?_
  | with_reducible refine s_asg ?_
  | with_reducible refine s_gName ?_
  | with_reducible refine s_ret ?_
  | with_reducible refine s_ifS ?_
  | with_reducible refine s_next ?_
  | with_reducible refine s_op ?_
  | ((with_reducible apply s_var); exact rfl)
  | ((with_reducible apply s_cS); (walk_at "lit"))
  | with_reducible refine s_c ?_
  | with_reducible refine s_cb ?_
  | with_reducible refine s_cons ?_
  | with_reducible refine s_nil ?_
  | with_reducible refine s_un ?_
  | with_reducible refine s_call ?_
  | with_reducible refine s_test ?_
  | with_reducible refine s_tB ?_
  | with_reducible refine s_blQ ?_
  | with_reducible refine s_not ?_
  | with_reducible refine s_and ?_
  | with_reducible refine s_or ?_
  | with_reducible refine s_andV ?_
  | with_reducible refine s_orV ?_
  | with_reducible refine s_notV ?_
  | with_reducible refine s_ifE ?_
  | with_reducible refine s_chain ?_
  | ((with_reducible refine s_T ?_ ?_); (with_reducible exact rfl))
  | with_reducible refine s_nT ?_
  | with_reducible refine s_nF ?_
  | ((with_reducible refine s_F ?_ ?_); (with_reducible exact rfl))
  | ((with_reducible refine s_T ?_ ?_); assumption)
  | ((with_reducible refine s_F ?_ ?_); assumption)
  | ((with_reducible refine s_nB ?_ ?_); assumption)
  | ((with_reducible refine s_nA ?_ ?_); assumption)
  | ((with_reducible refine s_Td ?_ ?_); omega)
  | ((with_reducible refine s_Fd ?_ ?_); omega)
  | ((with_reducible refine s_nTd ?_ ?_); omega)
  | ((with_reducible refine s_nFd ?_ ?_); omega)
  | with_reducible refine s_sfld ?_
  | with_reducible refine s_addI ?_
  | with_reducible refine s_subI ?_
  | ((with_reducible refine s_mulI ?_ ?_); (walk_at "mul"))
  | ((with_reducible refine s_divI ?_ ?_); exact ⟨by omega, by omega⟩)
  | ((with_reducible refine s_modI ?_ ?_); omega)
  | ((with_reducible refine s_powI ?_ ?_); exact ⟨by decide, by decide, by decide⟩)
  | with_reducible refine s_ltI ?_
  | with_reducible refine s_leI ?_
  | with_reducible refine s_gtI ?_
  | with_reducible refine s_geI ?_
  | with_reducible refine s_negI ?_
  | with_reducible refine s_absI ?_
  | with_reducible refine s_intI ?_
  | with_reducible refine s_min2 ?_
  | with_reducible refine s_max2 ?_
  | with_reducible refine s_eqI ?_
  | with_reducible refine s_neI ?_
  | with_reducible refine s_eqS ?_
  | with_reducible refine s_neS ?_
  | with_reducible refine s_inSg ?_
  | with_reducible refine s_notInSg ?_
  | ((with_reducible refine s_addS ?_ ?_); (walk_at "sz"))
  | ((with_reducible refine s_lenS ?_ ?_); (walk_at "sz"))
  | ((with_reducible apply s_lenL); (walk_at "sq"))
  | ((with_reducible apply s_lenT); (walk_at "sqt"))
  | ((with_reducible apply s_ixL); (walk_at "sq"); exact rfl)
  | ((with_reducible apply s_ixT); (walk_at "sqt"); exact rfl)
  | with_reducible refine s_gSub ?_
  | ((with_reducible apply s_setL); (walk_at "hp"); (exact rfl); (intro _ _ _))
  | ((with_reducible refine s_alloc ?_ ?_); (walk_at "sz"); (intro _ _ _ _ _))
  | ((with_reducible refine s_divmod ?_ ?_); (exact ⟨by omega, PyProof.noPylong_small (by omega)⟩); (intro _ _ _ _ _))
  | ((with_reducible apply s_gTup); (walk_at "sqt"); (exact rfl))
  | ((with_reducible apply s_gLst); (walk_at "sq"); (exact rfl))
  | with_reducible refine s_gCons ?_
  | with_reducible refine s_gNil ?_
  | with_reducible refine s_lc ?_
  | ((with_reducible apply s_cat); (walk_at "hp"); (walk_at "hp"); (walk_at "sz"); (intro _ _ _ _ _))
  | ((with_reducible apply s_slL); (walk_at "sq"); (intro _ _ _ _ _))
  | with_reducible refine s_for ?_
  | with_reducible refine s_rng1 ?_
  | ((with_reducible refine s_rng1i ?_ ?_); (constructor <;> omega))
  | with_reducible refine s_rng2 ?_
  | ((with_reducible refine s_rng2i ?_ ?_); (refine ⟨?_, ?_, ?_, ?_⟩ <;> omega))
  | with_reducible refine s_iStr ?_
  | with_reducible refine s_iStrS ?_
  | with_reducible refine s_iList ?_
  | ((with_reducible apply s_iListA); (walk_at "sq"))
  | with_reducible refine s_iTup ?_
  | ((with_reducible apply s_iTupA); (walk_at "sqt"))
  | with_reducible refine s_sl ?_
  | with_reducible refine s_noPart ?_
  | with_reducible refine s_part ?_
  | with_reducible refine s_int1 ?_
  | ((with_reducible refine s_slS ?_ ?_); (walk_at "sz"))
  | with_reducible refine s_tup ?_
  | with_reducible refine s_lst ?_
  | with_reducible refine s_par ?_
  | with_reducible refine s_pair ?_
  | with_reducible refine s_M1 ?_
  | with_reducible refine s_isStr ?_
  | with_reducible refine s_revS ?_
  | ((with_reducible refine s_revS1 ?_ ?_); (walk_at "sz"))
  | with_reducible refine s_fldE ?_
  | with_reducible refine s_propE ?_
  | ((with_reducible refine u_draw ?_ ?_ ?_ ?_); omega; omega; (walk_at "pool"); (intro _ _ _ _ _ _))
  | ((with_reducible refine u_pool ?_); (intro _ _ _ _ _))
  | with_reducible refine u_is_integer ?_
  | with_reducible refine s_isiII ?_
  | with_reducible refine s_isiIB ?_
  | with_reducible refine s_isiSS ?_
  | ((with_reducible apply u_fldRing); assumption; (walk_at "ring"))
  | ((with_reducible apply u_textP); (walk_at "ring"))
  | ((with_reducible apply u_strRing); (walk_at "ring"))
  | ((with_reducible apply u_eqRing); (walk_at "ring"); (walk_at "ring"))
  | ((with_reducible apply u_isiRing); assumption; (walk_at "ring"))
  | ((with_reducible refine u_is_word ?_ ?_); omega; (intro _ _))
  | ((with_reducible refine u_turnings ?_ ?_); omega; (intro _ _ _ _ _))
  | with_reducible refine s_makeE ?_
  | with_reducible refine s_methE ?_)
local macro_rules | `(tactic| walk_at "go") => `(tactic| repeat (walk_at "st"))
local macro_rules | `(tactic| walk_at "exs") => `(tactic| first | exact Ex.rfl | assumption | (apply Ex.snoc (by assumption); walk_at "exs") | (apply Ex.snocW (by assumption); walk_at "exs"))
local macro_rules | `(tactic| walk_at "kind") => `(tactic| first | assumption | (apply KindAt.ex0 (by assumption); (walk_at "kind")) | (apply KindAt.exP (by assumption) (by assumption); (walk_at "kind")))
local macro_rules | `(tactic| walk_at "st") => `(tactic| first
  | with_reducible refine s_lenSet ?_
  | with_reducible refine s_drop ?_
  | with_reducible refine s_bm ?_
  | with_reducible refine s_notN ?_
  | with_reducible refine s_isN ?_
  | ((with_reducible apply s_tyL); (walk_at "hp"))
  | with_reducible refine s_enumT ?_
  | ((with_reducible apply s_enumTA); (walk_at "sqt"))
  | with_reducible refine s_lc2 ?_)
local macro_rules | `(tactic| walk_at "lit") => `(tactic| exact lit_MRK)
local macro_rules | `(tactic| walk_at "st") => `(tactic| first
  | with_reducible refine s_dcT ?_
  | with_reducible refine s_dc ?_)
local macro_rules | `(tactic| walk_at "lit") => `(tactic| exact lit_z)
def t_law_shufU (K : PySem.W.Frag) : TS :=
  (tSeq (tPar 2 3 (tCons (tCB (rListU K) (tCons (tVar 1) tNil)) (tCons (tLst tNil) tNil)))
  (tSeq (tFor (iRng1 (tCons (tCB (rLenV K) (tCons (tVar 1) tNil)) tNil)) (gName 4) (tDrop (tBM K "list" rAppend (tVar 3) (tCons (tBM K "list" rPopAt (tVar 2) (tCons (tCall (sp_law_draw K) [] E0 (tCons (tVar 0) (tCons (tCB (rLenV K) (tCons (tVar 2) tNil)) tNil))) tNil)) tNil))))
  (tRet (tVar 3))))
section
variable {K : PySem.W.Frag} {vs : List V} {H H1 : Hp} {Q : VK} {E : XK}
theorem pure_law_shufU (h : sp_law_shufU K vs H Q E) : t_law_shufU K (E1 Q) (start ["_law_pool_here", "_law_things", "_law_rest", "_law_found", "_law_turn"] vs) H := by
  obtain ⟨a, v, rfl, l, hv, hl, hp, k⟩ := h
  show t_law_shufU K (E1 Q) [some (.ref a), some v, none, none, none] H
  unfold t_law_shufU
  walk_at "go"
  refine s_listU hv hl fun p1 H1 n1 e1 h1 => ?_
  walk_at "go"
  rename_i p2 H2 n2 e2 h2
  have ne12 : p2 ≠ p1 := fun z => by rw [z, h1] at n2; cases n2
  have ne1a : p1 ≠ a := fun z => hp.there (z ▸ n1)
  have ne2a : p2 ≠ a := fun z => (show PoolAt H1 a by walk_at "pool").there (z ▸ n2)
  have n20 : H p2 = none := e1.free n2
  refine s_lenU ((hv.ex0 e1).ex0 e2) hl ?_
  walk_at "go"
  refine for_rng (fun i σ H' => ∃ (r f : List V) (x4 : Option V), σ = [some (.ref a), some v, some (.ref p1), some (.ref p2), x4] ∧ r.length + i = l.length ∧ (f ++ r).Perm l ∧ H' p1 = some (.lst r) ∧ H' p2 = some (.lst f) ∧ Ex [a] H H' ∧ PoolAt H' a)
    ⟨l, [], _, rfl, rfl, List.Perm.refl _, by walk_at "hp", h2, by walk_at "exs", by walk_at "pool"⟩ ?_ ?_
  · rintro i _ H3 hi ⟨r, f, x4, rfl, hr, hf, h31, h32, e3, p3⟩
    have hi : i < l.length := by omega
    have hfl : f.length ≤ 600 := by have := hf.length_eq; rw [List.length_append] at this; omega
    walk_at "go"
    rename_i d H4 d0 d1 e4 p4
    have hdl : d.toNat < r.length := by omega
    have h41 : H4 p1 = some (.lst r) := by walk_at "hp"
    have h42 : H4 p2 = some (.lst f) := by walk_at "hp"
    refine s_popAt (i := d.toNat) (y := r[d.toNat]) h41 (by omega) (by omega) (List.getElem?_eq_getElem hdl) fun H5 e5 h51 => ?_
    walk_at "go"
    refine s_append (xs := f) (by walk_at "hp") (Nat.lt_of_le_of_lt hfl (by decide)) fun H6 e6 h62 => ?_
    walk_at "go"
    refine ⟨r.eraseIdx d.toNat, f ++ [r[d.toNat]], _, rfl, ?_, ?_, ?_, ?_, ?_, ?_⟩
    · rw [List.length_eraseIdx, if_pos hdl]; omega
    · rw [List.append_assoc]
      exact (List.Perm.append_left f (erase_perm hdl)).trans hf
    · walk_at "hp"
    · exact h62
    · exact Ex.dropM n20 (Ex.dropM n1 (e3.trans e4) e5) e6
    · have p5 : PoolAt H5 a := PoolAt.ex e5 (by simpa using Ne.symm ne1a) p4
      exact PoolAt.ex e6 (by simpa using Ne.symm ne2a) p5
  · rintro _ H3 ⟨r, f, x4, rfl, hr, hf, h31, h32, e3, p3⟩
    walk_at "go"
    have : r = [] := List.length_eq_zero_iff.mp (by omega)
    subst this
    rw [List.append_nil] at hf
    exact k f p2 H3 hf n20 e3 p3 h32
theorem Tups.exP {a : Addr} {xs : List V} {ls : List (List V)} {H H' : Hp} (hp : PoolAt H a) (e : Ex [a] H H') (h : Tups K H xs ls) : Tups K H' xs ls := ⟨h.1, fun i x l h1 h2 => by
  obtain ⟨p, h3, h4⟩ := h.2 i x l h1 h2
  exact ⟨p, h3, sqT_pool hp e h4⟩⟩
theorem Tups.set {xs : List V} {ls : List (List V)} {i : Nat} {p : Addr} {l : List V} (h : Tups K H xs ls) (hp : SqT K H p l) : Tups K H (xs.set i (.ref p)) (ls.set i l) := ⟨by simp [h.1], fun j x m h1 h2 => by
  by_cases hj : i = j
  · subst hj
    have hl : i < xs.length := by have := (List.getElem?_eq_some_iff.mp h1).1; simpa using this
    rw [List.getElem?_set_self hl] at h1
    rw [List.getElem?_set_self (by rw [← h.1]; exact hl)] at h2
    cases h1; cases h2
    exact ⟨p, rfl, hp⟩
  · rw [List.getElem?_set_ne hj] at h1 h2
    exact h.2 j x m h1 h2⟩
end
end WB
namespace WB
open PySem PySem.Spec PyProof.Rows L2
theorem lit_97 : ("a" : Str) = S [97] := by decide +kernel
theorem lit_97_98 : ("ab" : Str) = S [97, 98] := by decide +kernel
theorem lit_65 : ("A" : Str) = S [65] := by decide +kernel
theorem lit_97_32_98 : ("a b" : Str) = S [97, 32, 98] := by decide +kernel
theorem lit_97_97 : ("aa" : Str) = S [97, 97] := by decide +kernel
theorem lit_97_10 : ("a\n" : Str) = S [97, 10] := by decide +kernel
theorem lit_97_98_99_100_101 : ("abcde" : Str) = S [97, 98, 99, 100, 101] := by decide +kernel
local macro_rules | `(tactic| walk_at "lit") => `(tactic| first | exact lit_97 | exact lit_97_98 | exact lit_65 | exact lit_97_32_98 | exact lit_97_97 | exact lit_97_10 | exact lit_97_98_99_100_101)
local macro_rules | `(tactic| walk_at "lit") => `(tactic| first | exact lit_abc | exact lit_empty)
local macro_rules | `(tactic| walk_at "nm") => `(tactic| focus first | exact List.not_mem_nil | (simp only [List.mem_singleton]; first | assumption | (exact Ne.symm (by assumption)) | (intro hz; subst hz; simp_all; done)))
local macro_rules | `(tactic| walk_at "hp") => `(tactic| first | assumption | (apply Ex.get0 (by assumption); walk_at "hp") | (apply Ex.get (by assumption); (walk_at "nm"); (walk_at "hp")))
local macro_rules | `(tactic| walk_at "sq") => `(tactic| first | assumption | (apply SqL.of; walk_at "hp") | (apply Ex.sqL (by assumption); (walk_at "nm"); (walk_at "sq")))
local macro_rules | `(tactic| walk_at "sqt") => `(tactic| first | assumption | (apply SqT.of; walk_at "hp") | (apply Ex.sqT (by assumption); (walk_at "nm"); (walk_at "sqt")))
local macro_rules | `(tactic| walk_at "sz") => `(tactic| focus ((with_reducible refine Nat.le_trans (m := 100000) ?_ (by decide)); first | omega | (simp; done) | (simp; omega)))
local macro_rules | `(tactic| walk_at "mul") => `(tactic| first | exact Or.inr ⟨by omega, by omega⟩ | exact Or.inl ⟨by omega, by omega⟩)
local macro_rules | `(tactic| walk_at "pool") => `(tactic| first | assumption | (apply PoolAt.ex (by assumption); (walk_at "nm"); (walk_at "pool")))
local macro_rules | `(tactic| walk_at "ring") => `(tactic| first | assumption | (apply RingAt.ex (by assumption); (walk_at "nm"); (walk_at "ring")))
local macro_rules | `(tactic| walk_at "st") => `(tactic| first
  | with_reducible refine s_seq ?_
  | with_reducible refine s_asg ?_
  | with_reducible refine s_gName ?_
  | with_reducible refine s_ret ?_
  | with_reducible refine s_ifS ?_
  | with_reducible refine s_next ?_
  | with_reducible refine s_op ?_
  | ((with_reducible apply s_var); exact rfl)
  | ((with_reducible apply s_cS); (walk_at "lit"))
  | with_reducible refine s_c ?_
  | with_reducible refine s_cb ?_
  | with_reducible refine s_cons ?_
  | with_reducible refine s_nil ?_
  | with_reducible refine s_un ?_
  | with_reducible refine s_call ?_
  | with_reducible refine s_test ?_
  | with_reducible refine s_tB ?_
  | with_reducible refine s_blQ ?_
  | with_reducible refine s_not ?_
  | with_reducible refine s_and ?_
  | with_reducible refine s_or ?_
  | with_reducible refine s_andV ?_
  | with_reducible refine s_orV ?_
  | with_reducible refine s_notV ?_
  | with_reducible refine s_ifE ?_
  | with_reducible refine s_chain ?_
  | ((with_reducible refine s_T ?_ ?_); (with_reducible exact rfl))
  | with_reducible refine s_nT ?_
  | with_reducible refine s_nF ?_
  | ((with_reducible refine s_F ?_ ?_); (with_reducible exact rfl))
  | ((with_reducible refine s_T ?_ ?_); assumption)
  | ((with_reducible refine s_F ?_ ?_); assumption)
  | ((with_reducible refine s_nB ?_ ?_); assumption)
  | ((with_reducible refine s_nA ?_ ?_); assumption)
  | ((with_reducible refine s_Td ?_ ?_); omega)
  | ((with_reducible refine s_Fd ?_ ?_); omega)
  | ((with_reducible refine s_nTd ?_ ?_); omega)
  | ((with_reducible refine s_nFd ?_ ?_); omega)
  | with_reducible refine s_sfld ?_
  | with_reducible refine s_addI ?_
  | with_reducible refine s_subI ?_
  | ((with_reducible refine s_mulI ?_ ?_); (walk_at "mul"))
  | ((with_reducible refine s_divI ?_ ?_); exact ⟨by omega, by omega⟩)
  | ((with_reducible refine s_modI ?_ ?_); omega)
  | ((with_reducible refine s_powI ?_ ?_); exact ⟨by decide, by decide, by decide⟩)
  | with_reducible refine s_ltI ?_
  | with_reducible refine s_leI ?_
  | with_reducible refine s_gtI ?_
  | with_reducible refine s_geI ?_
  | with_reducible refine s_negI ?_
  | with_reducible refine s_absI ?_
  | with_reducible refine s_intI ?_
  | with_reducible refine s_min2 ?_
  | with_reducible refine s_max2 ?_
  | with_reducible refine s_eqI ?_
  | with_reducible refine s_neI ?_
  | with_reducible refine s_eqS ?_
  | with_reducible refine s_neS ?_
  | with_reducible refine s_inSg ?_
  | with_reducible refine s_notInSg ?_
  | ((with_reducible refine s_addS ?_ ?_); (walk_at "sz"))
  | ((with_reducible refine s_lenS ?_ ?_); (walk_at "sz"))
  | ((with_reducible apply s_lenL); (walk_at "sq"))
  | ((with_reducible apply s_lenT); (walk_at "sqt"))
  | ((with_reducible apply s_ixL); (walk_at "sq"); exact rfl)
  | ((with_reducible apply s_ixT); (walk_at "sqt"); exact rfl)
  | with_reducible refine s_gSub ?_
  | ((with_reducible apply s_setL); (walk_at "hp"); (exact rfl); (intro _ _ _))
  | ((with_reducible refine s_alloc ?_ ?_); (walk_at "sz"); (intro _ _ _ _ _))
  | ((with_reducible refine s_divmod ?_ ?_); (exact ⟨by omega, PyProof.noPylong_small (by omega)⟩); (intro _ _ _ _ _))
  | ((with_reducible apply s_gTup); (walk_at "sqt"); (exact rfl))
  | ((with_reducible apply s_gLst); (walk_at "sq"); (exact rfl))
  | with_reducible refine s_gCons ?_
  | with_reducible refine s_gNil ?_
  | with_reducible refine s_lc ?_
  | ((with_reducible apply s_cat); (walk_at "hp"); (walk_at "hp"); (walk_at "sz"); (intro _ _ _ _ _))
  | ((with_reducible apply s_slL); (walk_at "sq"); (intro _ _ _ _ _))
  | with_reducible refine s_for ?_
  | with_reducible refine s_rng1 ?_
  | ((with_reducible refine s_rng1i ?_ ?_); (constructor <;> omega))
  | with_reducible refine s_rng2 ?_
  | ((with_reducible refine s_rng2i ?_ ?_); (refine ⟨?_, ?_, ?_, ?_⟩ <;> omega))
  | with_reducible refine s_iStr ?_
  | with_reducible refine s_iStrS ?_
  | with_reducible refine s_iList ?_
  | ((with_reducible apply s_iListA); (walk_at "sq"))
  | with_reducible refine s_iTup ?_
  | ((with_reducible apply s_iTupA); (walk_at "sqt"))
  | with_reducible refine s_sl ?_
  | with_reducible refine s_noPart ?_
  | with_reducible refine s_part ?_
  | with_reducible refine s_int1 ?_
  | ((with_reducible refine s_slS ?_ ?_); (walk_at "sz"))
  | with_reducible refine s_tup ?_
  | with_reducible refine s_lst ?_
  | with_reducible refine s_par ?_
  | with_reducible refine s_pair ?_
  | with_reducible refine s_M1 ?_
  | with_reducible refine s_isStr ?_
  | with_reducible refine s_revS ?_
  | ((with_reducible refine s_revS1 ?_ ?_); (walk_at "sz"))
  | with_reducible refine s_fldE ?_
  | with_reducible refine s_propE ?_
  | ((with_reducible refine u_draw ?_ ?_ ?_ ?_); omega; omega; (walk_at "pool"); (intro _ _ _ _ _ _))
  | ((with_reducible refine u_pool ?_); (intro _ _ _ _ _))
  | with_reducible refine u_is_integer ?_
  | with_reducible refine s_isiII ?_
  | with_reducible refine s_isiIB ?_
  | with_reducible refine s_isiSS ?_
  | ((with_reducible apply u_fldRing); assumption; (walk_at "ring"))
  | ((with_reducible apply u_textP); (walk_at "ring"))
  | ((with_reducible apply u_strRing); (walk_at "ring"))
  | ((with_reducible apply u_eqRing); (walk_at "ring"); (walk_at "ring"))
  | ((with_reducible apply u_isiRing); assumption; (walk_at "ring"))
  | ((with_reducible refine u_is_word ?_ ?_); omega; (intro _ _))
  | ((with_reducible refine u_turnings ?_ ?_); omega; (intro _ _ _ _ _))
  | with_reducible refine s_makeE ?_
  | with_reducible refine s_methE ?_)
local macro_rules | `(tactic| walk_at "go") => `(tactic| repeat (walk_at "st"))
local macro_rules | `(tactic| walk_at "exs") => `(tactic| first | exact Ex.rfl | assumption | (apply Ex.snoc (by assumption); walk_at "exs") | (apply Ex.snocW (by assumption); walk_at "exs"))
local macro_rules | `(tactic| walk_at "odd") => `(tactic| first | assumption | (apply OddAt.ex (by assumption); (walk_at "odd")))
local macro_rules | `(tactic| walk_at "st") => `(tactic| first
  | with_reducible refine s_inStr ?_
  | with_reducible refine s_pairs1 ?_
  | ((with_reducible refine s_dnew ?_); (intro _ _ _ _ _)))
def t_law_odd (K : PySem.W.Frag) : TS :=
  (tSeq (tAsg (tCall (sp_law_draw K) [] E0 (tCons (tVar 0) (tCons (tC (.int 27)) tNil))) (gName 1))
  (tSeq (tIfS (tTest (tOp rLtI (tVar 1) (tC (.int 11)))) (tRet (tOp (rIxL K) (tLst (tCons (tC .non) (tCons (tC (.bl true)) (tCons (tC (.bl false)) (tCons (tC (.int 0)) (tCons (tC (.int 1)) (tCons (tUn rNegI (tC (.int 1))) (tCons (tC (.int 2)) (tCons (tC (.int 7)) (tCons (tC (.int 600)) (tCons (tOp rPowI (tC (.int 10)) (tC (.int 38))) (tCons (tUn rNegI (tOp rPowI (tC (.int 10)) (tC (.int 38)))) tNil)))))))))))) (tVar 1))) tNext)
  (tSeq (tIfS (tTest (tOp rLtI (tVar 1) (tC (.int 19)))) (tRet (tOp (rIxL K) (tLst (tCons (tC (.str "")) (tCons (tC (.str "a")) (tCons (tC (.str "ab")) (tCons (tC (.str "A")) (tCons (tC (.str "a b")) (tCons (tC (.str "aa")) (tCons (tC (.str "a\n")) (tCons (tC (.str "abcde")) tNil))))))))) (tOp rSubI (tVar 1) (tC (.int 11))))) tNext)
  (tSeq (tIfS (tTest (tOp rLtI (tVar 1) (tC (.int 23)))) (tRet (tOp (rIxL K) (tLst (tCons (tLst tNil) (tCons (tLst (tCons (tC (.str "a")) tNil)) (tCons tDNewK (tCons (tDisp [((tC (.str "a")), (tC (.int 1)))]) tNil))))) (tOp rSubI (tVar 1) (tC (.int 19))))) tNext)
  (tRet (tOp (rIxL K) (tLst (tCons (tTup tNil) (tCons (tTup (tCons (tC (.str "a")) tNil)) (tCons (tTup (tCons (tC (.int 0)) (tCons (tC (.int 1)) tNil))) (tCons (tTup (tCons (tLst tNil) (tCons (tDisp [((tC (.str "a")), (tTup (tCons (tC (.int 1)) (tCons (tLst tNil) tNil))))]) tNil))) tNil))))) (tOp rSubI (tVar 1) (tC (.int 23)))))))))
section
variable {K : PySem.W.Frag} {vs : List V} {H : Hp} {Q : VK} {E : XK}
theorem pure_law_odd (h : sp_law_odd K vs H Q E) : t_law_odd K (E1 Q) (start ["_law_pool_here", "_law_way"] vs) H := by
  obtain ⟨a, rfl, hp, k⟩ := h
  show t_law_odd K (E1 Q) [some (.ref a), none] H
  unfold t_law_odd
  walk_at "go"
  rename_i w H1 w0 w1 e1 p1
  have na : ∀ {p : Addr}, H1 p = none → p ∉ [a] := fun {p} hn hm => p1.there (by rw [← List.mem_singleton.mp hm]; exact hn)
  refine s_2 (fun hb => ?_) (fun hb => ?_)
  · have hb := of_decide_eq_true hb
    walk_at "go"
    rename_i p H2 hn e2 h2
    have p2 : PoolAt H2 a := by walk_at "pool"
    have e12 : Ex [a] H H2 := by walk_at "exs"
    rcases (show w = 0 ∨ w = 1 ∨ w = 2 ∨ w = 3 ∨ w = 4 ∨ w = 5 ∨ w = 6 ∨ w = 7 ∨ w = 8 ∨ w = 9 ∨ w = 10 by omega) with rfl | rfl | rfl | rfl | rfl | rfl | rfl | rfl | rfl | rfl | rfl
    · exact s_ixL (SqL.of h2) rfl (k _ _ e12 p2 .non)
    · exact s_ixL (SqL.of h2) rfl (k _ _ e12 p2 (.bl _))
    · exact s_ixL (SqL.of h2) rfl (k _ _ e12 p2 (.bl _))
    all_goals exact s_ixL (SqL.of h2) rfl (k _ _ e12 p2 (.int _ (by decide +kernel)))
  walk_at "go"
  have hb := of_decide_eq_false hb
  refine s_2 (fun hb2 => ?_) (fun hb2 => ?_)
  · have hb2 := of_decide_eq_true hb2
    walk_at "go"
    rename_i p H2 hn e2 h2
    have p2 : PoolAt H2 a := by walk_at "pool"
    have e12 : Ex [a] H H2 := by walk_at "exs"
    rcases (show w = 11 ∨ w = 12 ∨ w = 13 ∨ w = 14 ∨ w = 15 ∨ w = 16 ∨ w = 17 ∨ w = 18 by omega) with rfl | rfl | rfl | rfl | rfl | rfl | rfl | rfl
    all_goals exact s_ixL (SqL.of h2) rfl (k _ _ e12 p2 (.str _ (by decide)))
  walk_at "go"
  have hb2 := of_decide_eq_false hb2
  refine s_2 (fun hb3 => ?_) (fun hb3 => ?_)
  · have hb3 := of_decide_eq_true hb3
    walk_at "go"
    rename_i q1 H2 n2 e2 h2 q2 H3 n3 e3 h3 q3 H4 n4 e4 h4
    refine s_disp1 (z := kA) (v := .int 1) (fun _ _ _ _ _ R kk => ?_) fun q4 H5 n5 e5 h5 => ?_
    · walk_at "go"
      exact kk _ Ex.rfl
    walk_at "go"
    rename_i p H6 n6 e6 h6
    have p6 : PoolAt H6 a := by walk_at "pool"
    have e12 : Ex [a] H H6 := by walk_at "exs"
    rcases (show w = 19 ∨ w = 20 ∨ w = 21 ∨ w = 22 by omega) with rfl | rfl | rfl | rfl
    · exact s_ixL (SqL.of h6) rfl (k _ _ e12 p6 (.l0 (na n2) (by walk_at "hp")))
    · exact s_ixL (SqL.of h6) rfl (k _ _ e12 p6 (.l1 (na (e2.free n3)) (by walk_at "hp")))
    · exact s_ixL (SqL.of h6) rfl (k _ _ e12 p6 (.d0 (na (e2.free (e3.free n4))) (by walk_at "hp")))
    · exact s_ixL (SqL.of h6) rfl (k _ _ e12 p6 (.d1 (na (e2.free (e3.free (e4.free n5)))) (by walk_at "hp")))
  · have hb3 := of_decide_eq_false hb3
    walk_at "go"
    rename_i q1 H2 n2 e2 h2 q2 H3 n3 e3 h3 q3 H4 n4 e4 h4 q4 H5 n5 e5 h5
    intro c hc
    walk_at "go"
    rename_i q5 H6 n6 e6 h6 q6 H7 n7 e7 h7
    have e5c : Ex [] H5 (upd H5 c (.dK [])) := Ex.new hc
    have hcc : (upd H5 c (.dK [])) c = some (.dK []) := upd_same
    have hc7 : H7 c = some (.dK []) := by walk_at "hp"
    refine ⟨hc7, [(kA, .ref q6)], rfl, by simp, ?_⟩
    rw [show mergeK [] [(kA, V.ref q6)] = [(kA, V.ref q6)] from rfl]
    have e7c : Ex [c] H7 (upd H7 c (.dK [(kA, .ref q6)])) := Ex.put (by simp)
    have hc8 : (upd H7 c (.dK [(kA, .ref q6)])) c = some (.dK [(kA, .ref q6)]) := upd_same
    have g : ∀ {H8 : Hp}, H8 = upd H7 c (.dK [(kA, .ref q6)]) → Ex [] H5 H8 := fun {H8} ez b o _ hb => by
      rw [ez, upd_ne (ne_of_none hb hc)]
      exact e7 b o (by simp) (e6 b o (by simp) (e5c b o (by simp) hb))
    have n6' : H5 q5 = none := e5c.free n6
    have n7' : H5 q6 = none := e5c.free (e6.free n7)
    have ne1 : q5 ≠ c := fun z => by rw [z, hcc] at n6; cases n6
    have ne2 : q6 ≠ c := fun z => by rw [z, e6 c _ (by simp) hcc] at n7; cases n7
    have h6' : (upd H7 c (.dK [(kA, .ref q6)])) q5 = some (.lst []) := by rw [upd_ne ne1]; exact e7 _ _ (by simp) h6
    have h7' : (upd H7 c (.dK [(kA, .ref q6)])) q6 = some (.tup [.int 1, .ref q5]) := by rw [upd_ne ne2]; exact h7
    have e58 := g rfl
    revert h6' h7' e58 hc8
    generalize upd H7 c (.dK [(kA, .ref q6)]) = H8
    intro hc8 h6' h7' e58
    clear g e7c hc7 e5c hcc
    walk_at "go"
    rename_i q7 H9 n9 e9 h9 p Ha na' ea ha
    have pa : PoolAt Ha a := by
      have p5 : PoolAt H5 a := by walk_at "pool"
      have p8 : PoolAt H8 a := PoolAt.ex e58 (by simp) p5
      walk_at "pool"
    have e12 : Ex [a] H Ha := by
      have e15 : Ex [a] H H5 := by walk_at "exs"
      have e18 : Ex [a] H H8 := e15.trans e58.wide
      walk_at "exs"
    have f15 : ∀ {p : Addr}, H5 p = none → H1 p = none := fun {p} z => e2.free (e3.free (e4.free (e5.free z)))
    rcases (show w = 23 ∨ w = 24 ∨ w = 25 ∨ w = 26 by omega) with rfl | rfl | rfl | rfl
    · exact s_ixL (SqL.of ha) rfl (k _ _ e12 pa (.t0 (na n2) (ea.get0 (e9.get0 (e58.get0 (by walk_at "hp"))))))
    · exact s_ixL (SqL.of ha) rfl (k _ _ e12 pa (.t1 (na (e2.free n3)) (ea.get0 (e9.get0 (e58.get0 (by walk_at "hp"))))))
    · exact s_ixL (SqL.of ha) rfl (k _ _ e12 pa (.t2 (na (e2.free (e3.free n4))) (ea.get0 (e9.get0 (e58.get0 (by walk_at "hp"))))))
    · exact s_ixL (SqL.of ha) rfl (k _ _ e12 pa (.t3 (na (f15 (e58.free n9))) (na (e2.free (e3.free (e4.free n5)))) (na (f15 hc)) (na (f15 n7')) (na (f15 n6')) (ea.get0 h9) (ea.get0 (e9.get0 (e58.get0 h5))) (ea.get0 (e9.get0 hc8)) (ea.get0 (e9.get0 h7')) (ea.get0 (e9.get0 h6'))))
end
end WB
namespace WB
open PySem PySem.Spec PyProof.Rows L2 LamX
theorem l12z_114_105_110_103 : ("ring" : Str) = S [114, 105, 110, 103] := by decide +kernel
theorem l12z_116_111_108_100 : ("told" : Str) = S [116, 111, 108, 100] := by decide +kernel
theorem l12z_107_105_110_100 : ("kind" : Str) = S [107, 105, 110, 100] := by decide +kernel
local macro_rules | `(tactic| walk_at "lit") => `(tactic| first | exact l12z_114_105_110_103 | exact l12z_116_111_108_100 | exact l12z_107_105_110_100)
local macro_rules | `(tactic| walk_at "lit") => `(tactic| first | exact lit_abc | exact lit_empty)
local macro_rules | `(tactic| walk_at "nm") => `(tactic| focus first | exact List.not_mem_nil | (simp only [List.mem_singleton]; first | assumption | (exact Ne.symm (by assumption)) | (intro hz; subst hz; simp_all; done)))
local macro_rules | `(tactic| walk_at "hp") => `(tactic| first | assumption | (apply Ex.get0 (by assumption); walk_at "hp") | (apply Ex.get (by assumption); (walk_at "nm"); (walk_at "hp")))
local macro_rules | `(tactic| walk_at "sq") => `(tactic| first | assumption | (apply SqL.of; walk_at "hp") | (apply Ex.sqL (by assumption); (walk_at "nm"); (walk_at "sq")))
local macro_rules | `(tactic| walk_at "sqt") => `(tactic| first | assumption | (apply SqT.of; walk_at "hp") | (apply Ex.sqT (by assumption); (walk_at "nm"); (walk_at "sqt")))
local macro_rules | `(tactic| walk_at "sz") => `(tactic| focus ((with_reducible refine Nat.le_trans (m := 100000) ?_ (by decide)); first | omega | (simp; done) | (simp; omega)))
local macro_rules | `(tactic| walk_at "mul") => `(tactic| first | exact Or.inr ⟨by omega, by omega⟩ | exact Or.inl ⟨by omega, by omega⟩)
local macro_rules | `(tactic| walk_at "pool") => `(tactic| first | assumption | (apply PoolAt.ex (by assumption); (walk_at "nm"); (walk_at "pool")))
local macro_rules | `(tactic| walk_at "ring") => `(tactic| first | assumption | (apply RingAt.ex (by assumption); (walk_at "nm"); (walk_at "ring")))
local macro_rules | `(tactic| walk_at "st") => `(tactic| first
  | with_reducible refine s_seq ?_
  | with_reducible refine s_asg ?_
  | with_reducible refine s_gName ?_
  | with_reducible refine s_ret ?_
  | with_reducible refine s_ifS ?_
  | with_reducible refine s_next ?_
  | with_reducible refine s_op ?_
  | ((with_reducible apply s_var); exact rfl)
  | ((with_reducible apply s_cS); (walk_at "lit"))
  | with_reducible refine s_c ?_
  | with_reducible refine s_cb ?_
  | with_reducible refine s_cons ?_
  | with_reducible refine s_nil ?_
  | with_reducible refine s_un ?_
  | with_reducible refine s_call ?_
  | with_reducible refine s_test ?_
  | with_reducible refine s_tB ?_
  | with_reducible refine s_blQ ?_
  | with_reducible refine s_not ?_
  | with_reducible refine s_and ?_
  | with_reducible refine s_or ?_
  | with_reducible refine s_andV ?_
  | with_reducible refine s_orV ?_
  | with_reducible refine s_notV ?_
  | with_reducible refine s_ifE ?_
  | with_reducible refine s_chain ?_
  | ((with_reducible refine s_T ?_ ?_); (with_reducible exact rfl))
  | with_reducible refine s_nT ?_
  | with_reducible refine s_nF ?_
  | ((with_reducible refine s_F ?_ ?_); (with_reducible exact rfl))
  | ((with_reducible refine s_T ?_ ?_); assumption)
  | ((with_reducible refine s_F ?_ ?_); assumption)
  | ((with_reducible refine s_nB ?_ ?_); assumption)
  | ((with_reducible refine s_nA ?_ ?_); assumption)
  | ((with_reducible refine s_Td ?_ ?_); omega)
  | ((with_reducible refine s_Fd ?_ ?_); omega)
  | ((with_reducible refine s_nTd ?_ ?_); omega)
  | ((with_reducible refine s_nFd ?_ ?_); omega)
  | with_reducible refine s_sfld ?_
  | with_reducible refine s_addI ?_
  | with_reducible refine s_subI ?_
  | ((with_reducible refine s_mulI ?_ ?_); (walk_at "mul"))
  | ((with_reducible refine s_divI ?_ ?_); exact ⟨by omega, by omega⟩)
  | ((with_reducible refine s_modI ?_ ?_); omega)
  | ((with_reducible refine s_powI ?_ ?_); exact ⟨by decide, by decide, by decide⟩)
  | with_reducible refine s_ltI ?_
  | with_reducible refine s_leI ?_
  | with_reducible refine s_gtI ?_
  | with_reducible refine s_geI ?_
  | with_reducible refine s_negI ?_
  | with_reducible refine s_absI ?_
  | with_reducible refine s_intI ?_
  | with_reducible refine s_min2 ?_
  | with_reducible refine s_max2 ?_
  | with_reducible refine s_eqI ?_
  | with_reducible refine s_neI ?_
  | with_reducible refine s_eqS ?_
  | with_reducible refine s_neS ?_
  | with_reducible refine s_inSg ?_
  | with_reducible refine s_notInSg ?_
  | ((with_reducible refine s_addS ?_ ?_); (walk_at "sz"))
  | ((with_reducible refine s_lenS ?_ ?_); (walk_at "sz"))
  | ((with_reducible apply s_lenL); (walk_at "sq"))
  | ((with_reducible apply s_lenT); (walk_at "sqt"))
  | ((with_reducible apply s_ixL); (walk_at "sq"); exact rfl)
  | ((with_reducible apply s_ixT); (walk_at "sqt"); exact rfl)
  | with_reducible refine s_gSub ?_
  | ((with_reducible apply s_setL); (walk_at "hp"); (exact rfl); (intro _ _ _))
  | ((with_reducible refine s_alloc ?_ ?_); (walk_at "sz"); (intro _ _ _ _ _))
  | ((with_reducible refine s_divmod ?_ ?_); (exact ⟨by omega, PyProof.noPylong_small (by omega)⟩); (intro _ _ _ _ _))
  | ((with_reducible apply s_gTup); (walk_at "sqt"); (exact rfl))
  | ((with_reducible apply s_gLst); (walk_at "sq"); (exact rfl))
  | with_reducible refine s_gCons ?_
  | with_reducible refine s_gNil ?_
  | with_reducible refine s_lc ?_
  | ((with_reducible apply s_cat); (walk_at "hp"); (walk_at "hp"); (walk_at "sz"); (intro _ _ _ _ _))
  | ((with_reducible apply s_slL); (walk_at "sq"); (intro _ _ _ _ _))
  | with_reducible refine s_for ?_
  | with_reducible refine s_rng1 ?_
  | ((with_reducible refine s_rng1i ?_ ?_); (constructor <;> omega))
  | with_reducible refine s_rng2 ?_
  | ((with_reducible refine s_rng2i ?_ ?_); (refine ⟨?_, ?_, ?_, ?_⟩ <;> omega))
  | with_reducible refine s_iStr ?_
  | with_reducible refine s_iStrS ?_
  | with_reducible refine s_iList ?_
  | ((with_reducible apply s_iListA); (walk_at "sq"))
  | with_reducible refine s_iTup ?_
  | ((with_reducible apply s_iTupA); (walk_at "sqt"))
  | with_reducible refine s_sl ?_
  | with_reducible refine s_noPart ?_
  | with_reducible refine s_part ?_
  | with_reducible refine s_int1 ?_
  | ((with_reducible refine s_slS ?_ ?_); (walk_at "sz"))
  | with_reducible refine s_tup ?_
  | with_reducible refine s_lst ?_
  | with_reducible refine s_par ?_
  | with_reducible refine s_pair ?_
  | with_reducible refine s_M1 ?_
  | with_reducible refine s_isStr ?_
  | with_reducible refine s_revS ?_
  | ((with_reducible refine s_revS1 ?_ ?_); (walk_at "sz"))
  | with_reducible refine s_fldE ?_
  | with_reducible refine s_propE ?_
  | ((with_reducible refine u_draw ?_ ?_ ?_ ?_); omega; omega; (walk_at "pool"); (intro _ _ _ _ _ _))
  | ((with_reducible refine u_pool ?_); (intro _ _ _ _ _))
  | with_reducible refine u_is_integer ?_
  | with_reducible refine s_isiII ?_
  | with_reducible refine s_isiIB ?_
  | with_reducible refine s_isiSS ?_
  | ((with_reducible apply u_fldRing); assumption; (walk_at "ring"))
  | ((with_reducible apply u_textP); (walk_at "ring"))
  | ((with_reducible apply u_strRing); (walk_at "ring"))
  | ((with_reducible apply u_eqRing); (walk_at "ring"); (walk_at "ring"))
  | ((with_reducible apply u_isiRing); assumption; (walk_at "ring"))
  | ((with_reducible refine u_is_word ?_ ?_); omega; (intro _ _))
  | ((with_reducible refine u_turnings ?_ ?_); omega; (intro _ _ _ _ _))
  | with_reducible refine s_makeE ?_
  | with_reducible refine s_methE ?_)
local macro_rules | `(tactic| walk_at "go") => `(tactic| repeat (walk_at "st"))
local macro_rules | `(tactic| walk_at "exs") => `(tactic| first | exact Ex.rfl | assumption | (apply Ex.snoc (by assumption); walk_at "exs") | (apply Ex.snocW (by assumption); walk_at "exs"))
local macro_rules | `(tactic| walk_at "kind") => `(tactic| first | assumption | (apply KindAt.ex0 (by assumption); (walk_at "kind")) | (apply KindAt.exP (by assumption) (by assumption); (walk_at "kind")))
local macro_rules | `(tactic| walk_at "st") => `(tactic| first
  | with_reducible refine s_lenSet ?_
  | with_reducible refine s_drop ?_
  | with_reducible refine s_bm ?_
  | with_reducible refine s_notN ?_
  | with_reducible refine s_isN ?_
  | ((with_reducible apply s_tyL); (walk_at "hp"))
  | with_reducible refine s_enumT ?_
  | ((with_reducible apply s_enumTA); (walk_at "sqt"))
  | with_reducible refine s_lc2 ?_)
local macro_rules | `(tactic| walk_at "lit") => `(tactic| exact lit_MRK)
local macro_rules | `(tactic| walk_at "st") => `(tactic| first
  | with_reducible refine s_dcT ?_
  | with_reducible refine s_dc ?_)
local macro_rules | `(tactic| walk_at "som") => `(tactic| first | assumption | (apply SomeAt.ex (by assumption); (walk_at "nm"); (walk_at "som")))
def t_rest12b (K : PySem.W.Frag) : TS :=
  (tSeq (tIfS (tTest (tOp rEq (tOp (rIxT K) (tVar 7) (tC (.int 0))) (tC (.str "")))) (tIfS (tOr (tTest (tOp (rNeS K) (tVar 8) (tLst (tCons (tC (.str "ring")) (tCons (tC .non) tNil))))) (tTest (tOp (rNeS K) (tVar 9) (tLst (tCons (tC (.str "ring")) (tCons (tC .non) tNil)))))) (tRet (tC (.bl false))) tNext) (tIfS (tOr (tTest (tOp rNe (tOp (rIxL K) (tVar 8) (tC (.int 0))) (tC (.str "told")))) (tOr (tTest (tOp rNe (tOp (rIxL K) (tVar 9) (tC (.int 0))) (tC (.str "told")))) (tOr (tTest (tOp (rNeS K) (tProp (He.ga K "Kind") (sp_Kind_row K) [] E0 (tOp (rIxL K) (tVar 8) (tC (.int 1)))) (tVar 7))) (tNot (tTest (tOp (rEqO (He.ga K "Kind") (sp_Kind_eq K) E0) (tOp (rIxL K) (tVar 8) (tC (.int 1))) (tOp (rIxL K) (tVar 9) (tC (.int 1))))))))) (tRet (tC (.bl false))) tNext))
  (tSeq (tFor (iRng1 (tCons (tC (.int 5)) tNil)) (gName 10) (tSeq (tAsg (tMake (He.ga K "Ring") (sp_Ring_init K) [] E0 (tCons (tCall (sp_law_along12 K) [] E0 (tCons (tVar 0) (tCons (tOp (rIxL K) (tLst (tCons (tVar 1) (tCons (tVar 2) tNil))) (tCall (sp_law_draw K) [] E0 (tCons (tVar 0) (tCons (tC (.int 2)) tNil)))) (tCons (tOp rCat (tVar 3) (tVar 4)) tNil)))) tNil)) (gName 11))
  (tSeq (tAsg (tAndV (tOp (rInO (He.ga K "Kind") false (sp_Kind_contains K) E0) (tVar 11) (tVar 5)) (tOp (rInO (He.ga K "Kind") false (sp_Kind_contains K) E0) (tVar 11) (tVar 6))) (gName 12))
  (tIfS (tTest (tOp rNe (tVar 12) (tAndV (tOp rEq (tOp (rIxL K) (tVar 8) (tC (.int 0))) (tC (.str "told"))) (tOp (rInO (He.ga K "Kind") false (sp_Kind_contains K) E0) (tVar 11) (tOp (rIxL K) (tVar 8) (tC (.int 1))))))) (tRet (tC (.bl false))) tNext))))
  (tSeq (tAsg (tOp (rIxL K) (tLst (tCons (tCall (sp_law_odd K) [] E0 (tCons (tVar 0) tNil)) (tCons (tVar 11) (tCons (tProp (He.ga K "Kind") (sp_Kind_row K) [] E0 (tVar 5)) (tCons (tVar 1) tNil))))) (tCall (sp_law_draw K) [] E0 (tCons (tVar 0) (tCons (tC (.int 4)) tNil)))) (gName 13))
  (tSeq (tIfS (tTest (tOp (rNeS K) (tLam (tabs12 K) (TT_law_heard12 K) (fun E => (tOp (rBinVN (He.ga K "Kind") (He.ga K "Ring") (spx_Kind_and K) E K) (tVar 5) (tVar 13)))) (tLst (tCons (tC (.str "kind")) (tCons (tCall (sp_law_faceR K 6) [] E0 (tCons (tVar 13) tNil)) tNil))))) (tRet (tC (.bl false))) tNext)
  (tSeq (tAsg (tLst (tCons (tTup (tCons (tM1 (rJoin K) (tC (.str "")) (tCB (rSrt K) (tCons (tVar 1) tNil))) (tCons (tCB (rTupOf K) (tCons (tCB (rSrt K) (tCons (tVar 3) tNil)) tNil)) tNil))) (tCons (tTup (tCons (tM1 (rJoin K) (tC (.str "")) (tCB (rSrt K) (tCons (tVar 2) tNil))) (tCons (tCB (rTupOf K) (tCons (tCB (rSrt K) (tCons (tVar 4) tNil)) tNil)) tNil))) tNil))) (gName 14))
  (tRet (tAndV (tOp (rEqD K) (tLst (tCons (tProp (He.ga K "Kind") (sp_Kind_row K) [] E0 (tVar 5)) (tCons (tProp (He.ga K "Kind") (sp_Kind_row K) [] E0 (tVar 6)) tNil))) (tVar 14)) (tOp (rEqO (He.ga K "Kind") (sp_Kind_eq K) E0) (tOp (rBinO (He.ga K "Kind") (sp_Kind_and K) E0) (tVar 5) (tVar 5)) (tVar 5)))))))))
def t_rest12 (K : PySem.W.Frag) : TS :=
  (tSeq (tPar 3 4 (tCons (tCall (sp_law_couplesU K) [] E0 (tCons (tVar 0) (tCons (tVar 1) tNil))) (tCons (tCall (sp_law_couplesU K) [] E0 (tCons (tVar 0) (tCons (tVar 2) tNil))) tNil)))
  (tSeq (tAsg (tTup (tCons (tMake (He.ga K "Kind") (sp_Kind_init K) [] E0 (tCons (tVar 1) (tCons (tCB (rTupOf K) (tCons (tVar 3) tNil)) tNil))) (tCons (tMake (He.ga K "Kind") (sp_Kind_init K) [] E0 (tCons (tVar 2) (tCons (tCB (rTupOf K) (tCons (tVar 4) tNil)) tNil))) tNil))) (gTup K 2 (gCons (gName 5) (gCons (gName 6) gNil))))
  (tSeq (tAsg (tCall (sp_law_both12 K) [] E0 (tCons (tVar 1) (tCons (tVar 2) (tCons (tVar 3) (tCons (tVar 4) tNil))))) (gName 7))
  (tSeq (tAsg (tLam (tabs12 K) (TT_law_heard12 K) (fun E => (tOp (rBinO (He.ga K "Kind") (spx_Kind_and K) E) (tVar 5) (tVar 6)))) (gName 8))
  (tSeq (tAsg (tLam (tabs12 K) (TT_law_heard12 K) (fun E => (tOp (rBinO (He.ga K "Kind") (spx_Kind_and K) E) (tVar 6) (tVar 5)))) (gName 9))
  (tSeq (tIfS (tTest (tOp rEq (tOp (rIxT K) (tVar 7) (tC (.int 0))) (tC (.str "")))) (tIfS (tOr (tTest (tOp (rNeS K) (tVar 8) (tLst (tCons (tC (.str "ring")) (tCons (tC .non) tNil))))) (tTest (tOp (rNeS K) (tVar 9) (tLst (tCons (tC (.str "ring")) (tCons (tC .non) tNil)))))) (tRet (tC (.bl false))) tNext) (tIfS (tOr (tTest (tOp rNe (tOp (rIxL K) (tVar 8) (tC (.int 0))) (tC (.str "told")))) (tOr (tTest (tOp rNe (tOp (rIxL K) (tVar 9) (tC (.int 0))) (tC (.str "told")))) (tOr (tTest (tOp (rNeS K) (tProp (He.ga K "Kind") (sp_Kind_row K) [] E0 (tOp (rIxL K) (tVar 8) (tC (.int 1)))) (tVar 7))) (tNot (tTest (tOp (rEqO (He.ga K "Kind") (sp_Kind_eq K) E0) (tOp (rIxL K) (tVar 8) (tC (.int 1))) (tOp (rIxL K) (tVar 9) (tC (.int 1))))))))) (tRet (tC (.bl false))) tNext))
  (tSeq (tFor (iRng1 (tCons (tC (.int 5)) tNil)) (gName 10) (tSeq (tAsg (tMake (He.ga K "Ring") (sp_Ring_init K) [] E0 (tCons (tCall (sp_law_along12 K) [] E0 (tCons (tVar 0) (tCons (tOp (rIxL K) (tLst (tCons (tVar 1) (tCons (tVar 2) tNil))) (tCall (sp_law_draw K) [] E0 (tCons (tVar 0) (tCons (tC (.int 2)) tNil)))) (tCons (tOp rCat (tVar 3) (tVar 4)) tNil)))) tNil)) (gName 11))
  (tSeq (tAsg (tAndV (tOp (rInO (He.ga K "Kind") false (sp_Kind_contains K) E0) (tVar 11) (tVar 5)) (tOp (rInO (He.ga K "Kind") false (sp_Kind_contains K) E0) (tVar 11) (tVar 6))) (gName 12))
  (tIfS (tTest (tOp rNe (tVar 12) (tAndV (tOp rEq (tOp (rIxL K) (tVar 8) (tC (.int 0))) (tC (.str "told"))) (tOp (rInO (He.ga K "Kind") false (sp_Kind_contains K) E0) (tVar 11) (tOp (rIxL K) (tVar 8) (tC (.int 1))))))) (tRet (tC (.bl false))) tNext))))
  (tSeq (tAsg (tOp (rIxL K) (tLst (tCons (tCall (sp_law_odd K) [] E0 (tCons (tVar 0) tNil)) (tCons (tVar 11) (tCons (tProp (He.ga K "Kind") (sp_Kind_row K) [] E0 (tVar 5)) (tCons (tVar 1) tNil))))) (tCall (sp_law_draw K) [] E0 (tCons (tVar 0) (tCons (tC (.int 4)) tNil)))) (gName 13))
  (tSeq (tIfS (tTest (tOp (rNeS K) (tLam (tabs12 K) (TT_law_heard12 K) (fun E => (tOp (rBinVN (He.ga K "Kind") (He.ga K "Ring") (spx_Kind_and K) E K) (tVar 5) (tVar 13)))) (tLst (tCons (tC (.str "kind")) (tCons (tCall (sp_law_faceR K 6) [] E0 (tCons (tVar 13) tNil)) tNil))))) (tRet (tC (.bl false))) tNext)
  (tSeq (tAsg (tLst (tCons (tTup (tCons (tM1 (rJoin K) (tC (.str "")) (tCB (rSrt K) (tCons (tVar 1) tNil))) (tCons (tCB (rTupOf K) (tCons (tCB (rSrt K) (tCons (tVar 3) tNil)) tNil)) tNil))) (tCons (tTup (tCons (tM1 (rJoin K) (tC (.str "")) (tCB (rSrt K) (tCons (tVar 2) tNil))) (tCons (tCB (rTupOf K) (tCons (tCB (rSrt K) (tCons (tVar 4) tNil)) tNil)) tNil))) tNil))) (gName 14))
  (tRet (tAndV (tOp (rEqD K) (tLst (tCons (tProp (He.ga K "Kind") (sp_Kind_row K) [] E0 (tVar 5)) (tCons (tProp (He.ga K "Kind") (sp_Kind_row K) [] E0 (tVar 6)) tNil))) (tVar 14)) (tOp (rEqO (He.ga K "Kind") (sp_Kind_eq K) E0) (tOp (rBinO (He.ga K "Kind") (sp_Kind_and K) E0) (tVar 5) (tVar 5)) (tVar 5))))))))))))))
def t_law_right12 (K : PySem.W.Frag) : TS :=
  (tSeq (tAsg (tCall (sp_law_signs K) [] E0 (tCons (tVar 0) (tCons (tC (.int 4)) tNil))) (gName 1))
  (tSeq (tAsg (tCall (sp_law_signs K) [] E0 (tCons (tVar 0) (tCons (tC (.int 4)) tNil))) (gName 2))
  (tSeq (tIfS (tTest (tOp rGtI (tCall (sp_law_draw K) [] E0 (tCons (tVar 0) (tCons (tC (.int 3)) tNil))) (tC (.int 0)))) (tAsg (tSl rSlS (tM1 (rJoin K) (tC (.str "")) (tCall (sp_law_shufU K) [] E0 (tCons (tVar 0) (tCons (tVar 1) tNil)))) (tPart (tCall (sp_law_draw K) [] E0 (tCons (tVar 0) (tCons (tCB (rLenV K) (tCons (tVar 1) tNil)) tNil)))) tNoPart) (gName 2)) tNext)
  (tSeq (tPar 3 4 (tCons (tCall (sp_law_couplesU K) [] E0 (tCons (tVar 0) (tCons (tVar 1) tNil))) (tCons (tCall (sp_law_couplesU K) [] E0 (tCons (tVar 0) (tCons (tVar 2) tNil))) tNil)))
  (tSeq (tAsg (tTup (tCons (tMake (He.ga K "Kind") (sp_Kind_init K) [] E0 (tCons (tVar 1) (tCons (tCB (rTupOf K) (tCons (tVar 3) tNil)) tNil))) (tCons (tMake (He.ga K "Kind") (sp_Kind_init K) [] E0 (tCons (tVar 2) (tCons (tCB (rTupOf K) (tCons (tVar 4) tNil)) tNil))) tNil))) (gTup K 2 (gCons (gName 5) (gCons (gName 6) gNil))))
  (tSeq (tAsg (tCall (sp_law_both12 K) [] E0 (tCons (tVar 1) (tCons (tVar 2) (tCons (tVar 3) (tCons (tVar 4) tNil))))) (gName 7))
  (tSeq (tAsg (tLam (tabs12 K) (TT_law_heard12 K) (fun E => (tOp (rBinO (He.ga K "Kind") (spx_Kind_and K) E) (tVar 5) (tVar 6)))) (gName 8))
  (tSeq (tAsg (tLam (tabs12 K) (TT_law_heard12 K) (fun E => (tOp (rBinO (He.ga K "Kind") (spx_Kind_and K) E) (tVar 6) (tVar 5)))) (gName 9))
  (tSeq (tIfS (tTest (tOp rEq (tOp (rIxT K) (tVar 7) (tC (.int 0))) (tC (.str "")))) (tIfS (tOr (tTest (tOp (rNeS K) (tVar 8) (tLst (tCons (tC (.str "ring")) (tCons (tC .non) tNil))))) (tTest (tOp (rNeS K) (tVar 9) (tLst (tCons (tC (.str "ring")) (tCons (tC .non) tNil)))))) (tRet (tC (.bl false))) tNext) (tIfS (tOr (tTest (tOp rNe (tOp (rIxL K) (tVar 8) (tC (.int 0))) (tC (.str "told")))) (tOr (tTest (tOp rNe (tOp (rIxL K) (tVar 9) (tC (.int 0))) (tC (.str "told")))) (tOr (tTest (tOp (rNeS K) (tProp (He.ga K "Kind") (sp_Kind_row K) [] E0 (tOp (rIxL K) (tVar 8) (tC (.int 1)))) (tVar 7))) (tNot (tTest (tOp (rEqO (He.ga K "Kind") (sp_Kind_eq K) E0) (tOp (rIxL K) (tVar 8) (tC (.int 1))) (tOp (rIxL K) (tVar 9) (tC (.int 1))))))))) (tRet (tC (.bl false))) tNext))
  (tSeq (tFor (iRng1 (tCons (tC (.int 5)) tNil)) (gName 10) (tSeq (tAsg (tMake (He.ga K "Ring") (sp_Ring_init K) [] E0 (tCons (tCall (sp_law_along12 K) [] E0 (tCons (tVar 0) (tCons (tOp (rIxL K) (tLst (tCons (tVar 1) (tCons (tVar 2) tNil))) (tCall (sp_law_draw K) [] E0 (tCons (tVar 0) (tCons (tC (.int 2)) tNil)))) (tCons (tOp rCat (tVar 3) (tVar 4)) tNil)))) tNil)) (gName 11))
  (tSeq (tAsg (tAndV (tOp (rInO (He.ga K "Kind") false (sp_Kind_contains K) E0) (tVar 11) (tVar 5)) (tOp (rInO (He.ga K "Kind") false (sp_Kind_contains K) E0) (tVar 11) (tVar 6))) (gName 12))
  (tIfS (tTest (tOp rNe (tVar 12) (tAndV (tOp rEq (tOp (rIxL K) (tVar 8) (tC (.int 0))) (tC (.str "told"))) (tOp (rInO (He.ga K "Kind") false (sp_Kind_contains K) E0) (tVar 11) (tOp (rIxL K) (tVar 8) (tC (.int 1))))))) (tRet (tC (.bl false))) tNext))))
  (tSeq (tAsg (tOp (rIxL K) (tLst (tCons (tCall (sp_law_odd K) [] E0 (tCons (tVar 0) tNil)) (tCons (tVar 11) (tCons (tProp (He.ga K "Kind") (sp_Kind_row K) [] E0 (tVar 5)) (tCons (tVar 1) tNil))))) (tCall (sp_law_draw K) [] E0 (tCons (tVar 0) (tCons (tC (.int 4)) tNil)))) (gName 13))
  (tSeq (tIfS (tTest (tOp (rNeS K) (tLam (tabs12 K) (TT_law_heard12 K) (fun E => (tOp (rBinVN (He.ga K "Kind") (He.ga K "Ring") (spx_Kind_and K) E K) (tVar 5) (tVar 13)))) (tLst (tCons (tC (.str "kind")) (tCons (tCall (sp_law_faceR K 6) [] E0 (tCons (tVar 13) tNil)) tNil))))) (tRet (tC (.bl false))) tNext)
  (tSeq (tAsg (tLst (tCons (tTup (tCons (tM1 (rJoin K) (tC (.str "")) (tCB (rSrt K) (tCons (tVar 1) tNil))) (tCons (tCB (rTupOf K) (tCons (tCB (rSrt K) (tCons (tVar 3) tNil)) tNil)) tNil))) (tCons (tTup (tCons (tM1 (rJoin K) (tC (.str "")) (tCB (rSrt K) (tCons (tVar 2) tNil))) (tCons (tCB (rTupOf K) (tCons (tCB (rSrt K) (tCons (tVar 4) tNil)) tNil)) tNil))) tNil))) (gName 14))
  (tRet (tAndV (tOp (rEqD K) (tLst (tCons (tProp (He.ga K "Kind") (sp_Kind_row K) [] E0 (tVar 5)) (tCons (tProp (He.ga K "Kind") (sp_Kind_row K) [] E0 (tVar 6)) tNil))) (tVar 14)) (tOp (rEqO (He.ga K "Kind") (sp_Kind_eq K) E0) (tOp (rBinO (He.ga K "Kind") (sp_Kind_and K) E0) (tVar 5) (tVar 5)) (tVar 5)))))))))))))))))
def t_law12 (K : PySem.W.Frag) : TS :=
  (tRet (tCB (rAll K) (tCons (tLc (iRng1 (tCons (tCB rMax2 (tCons (tC (.int 2)) (tCons (tCB rMin2 (tCons (tCB (rLenV K) (tCons (tVar 0) tNil)) (tCons (tC (.int 6)) tNil))) tNil))) tNil)) (gName 1) tYes (tCall (sp_law_right12 K) [] E0 (tCons (tCall (sp_law_pool K) [] E0 (tCons (tCall (sp_law_cell K) [] E0 (tCons (tVar 0) (tCons (tVar 1) tNil))) tNil)) tNil)) [1]) tNil)))
section
variable {K : PySem.W.Frag} {vs : List V} {H H1 H' : Hp} {Q : VK} {E : XK} {a p q x y n n2 t o f r : Addr} {l m w : List Nat} {ps qs : List (List Nat)}
theorem u_couplesU {a : Addr} {s : List Nat} (hs : goodS s) (hp : PoolAt H a) (k : ∀ (ps : List (List Nat)) (p : Addr) (H' : Hp), goodP s ps → ps.length ≤ 16 → H p = none → Ex [a] H H' → PoolAt H' a → H' p = some (.lst (ps.map vS)) → Q (.ref p) H') : sp_law_couplesU K ([.ref a, vS s] ++ []) H Q E := ⟨_, _, rfl, hs, hp, k⟩
theorem s_neRing {p1 p2 : Addr} (h1 : H p1 = some (.lst [vS s12Ring, .non])) (h2 : H p2 = some (.lst [vS s12Ring, .non])) (k : Q (.bl false) H) : rNeS K (.ref p1) (.ref p2) H Q := by
  have g : ∀ {z : Addr}, H z = some (.lst [vS s12Ring, .non]) → Fr (fun _ => True) H 1 (.ref z) (.list [dS s12Ring, .none]) := fun {z} hz => .inr ⟨z, _, _, rfl, rfl, True.intro, hz, rfl, fun i x e h1 h2 => by
    match i, h1, h2 with
    | 0, h1, h2 => cases h1; cases h2; exact scS plain_12.2.1
    | 1, h1, h2 => cases h1; cases h2; exact .inl ⟨rfl, rfl⟩⟩
  exact .inl (s_neFr (n := 1) (m := 1) (by decide) (g h1) (g h2) k)
theorem rest12b (F : Own12 K) (hl : goodS l) (hm : goodS m) (gp : goodP l ps) (gq : goodP m qs) (np : ps.length ≤ 16) (nq : qs.length ≤ 16) (pa : p ≠ a) (qa : q ≠ a) (A : At12 K a p q x y l m ps qs H) (hn : ResAt12 K H n (res12 l m ps qs)) (hn2 : ResAt12 K H n2 (res12 m l qs ps))
    (ht : H t = some (.tup [vS (metS (sgn l) m), .ref o])) (ho : H o = some (.tup ((metP (srt ps) qs).map vS))) {x10 x11 x12 x13 x14 : Option V} (k : ∀ H', ExN [a] H H' → Tabs (tabs12 K) H' → Q (.bl true) H') :
    t_rest12b K (E1 Q) [some (.ref a), some (vS l), some (vS m), some (.ref p), some (.ref q), some (.ref x), some (.ref y), some (.ref t), some (.ref n), some (.ref n2), x10, x11, x12, x13, x14] H := by
  unfold t_rest12b
  have rest : ∀ G, Ex [] H G → t_rest12c K (E1 Q) [some (.ref a), some (vS l), some (vS m), some (.ref p), some (.ref q), some (.ref x), some (.ref y), some (.ref t), some (.ref n), some (.ref n2), x10, x11, x12, x13, x14] G := fun G e => rest12c F hl hm gp gq np nq pa qa (A.ex0 e) (hn.ex0 e) fun G2 e2 t2 => k G2 ((ExN.of0 e).trans e2) t2
  refine s_seq (s_ifS (s_test (s_op (s_op (s_var (v := .ref t) rfl (s_c (s_ixT (SqT.of ht) (atI_of (by decide) rfl) (s_cS (l := []) (by decide +kernel) (s_eqS (s_blQ ?_))))))))))
  unfold res12 at hn hn2
  rw [metS_com hm hl, metP_com gq gp] at hn2
  by_cases hc : metS (sgn l) m = []
  · rw [if_pos hc] at hn hn2
    refine s_T (decide_eq_true hc) ?_
    refine s_ifS (s_or (s_test (s_op (s_var (v := .ref n) rfl (s_lst (s_cons (s_cS (l := s12Ring) (by decide +kernel) (s_cons (s_c (s_nil (s_alloc (by show 2 ≤ sizeLine; decide) fun b H1 nb e1 hb => ?_))))))))))) 
    have hn' : H n = some (.lst [vS s12Ring, .non]) := hn
    have hn2' : H n2 = some (.lst [vS s12Ring, .non]) := hn2
    refine s_neRing (e1.get0 hn') hb (s_blQ (s_F rfl (s_test (s_op (s_var (v := .ref n2) rfl (s_lst (s_cons (s_cS (l := s12Ring) (by decide +kernel) (s_cons (s_c (s_nil (s_alloc (by show 2 ≤ sizeLine; decide) fun b2 H2 nb2 e2 hb2 => ?_))))))))))))
    refine s_neRing ((e1.trans e2).get0 hn2') hb2 (s_blQ (s_F rfl (s_next ?_)))
    exact rest _ (e1.trans e2)
  · rw [if_neg hc] at hn hn2
    obtain ⟨z1, hz1, hk1⟩ := id hn
    obtain ⟨z2, hz2, hk2⟩ := id hn2
    have pl1 : plain (metS (sgn l) m) := fun c hc => plainS hl c (List.mem_filter.mp hc).1
    have pl2 : ∀ p ∈ metP (srt ps) qs, plain p := fun p hp => plainP hl gp p (List.mem_filter.mp hp).1
    have ln : (metP (srt ps) qs).length ≤ 1000 := Nat.le_trans (List.length_filter_le _ _) (by rw [srt_len]; omega)
    refine s_F (decide_eq_false hc) ?_
    refine s_ifS (s_or (s_test (s_op (s_op (s_var (v := .ref n) rfl (s_c (s_ixL (v := vS s12Told) (SqL.of hz1) (atI_of (by decide) rfl) (s_cS (l := s12Told) (by decide +kernel) (s_neS (s_blQ ?_))))))))))
    refine s_F (by decide) (s_or (s_test (s_op (s_op (s_var (v := .ref n2) rfl (s_c (s_ixL (v := vS s12Told) (SqL.of hz2) (atI_of (by decide) rfl) (s_cS (l := s12Told) (by decide +kernel) (s_neS (s_blQ ?_))))))))))
    refine s_F (by decide) (s_or (s_test (s_op (s_propE (s_op (s_var (v := .ref n) rfl (s_c (s_ixL (v := .ref z1) (SqL.of hz1) (atI_of (by decide) rfl) (u_kRow hk1 fun r o2 H1 nr e1 hr ho2 => ?_)))))))))
    refine s_var (v := .ref t) rfl (.inl (s_neDd (n := 2) (m := 2) (by decide) (dd_krow (n := 0) (SqT.of hr) ho2 pl1 ln pl2) (dd_krow (n := 0) (SqT.of (e1.get0 ht)) (SqT.of (e1.get0 ho)) pl1 ln pl2) (s_blQ (s_F rfl ?_))))
    refine s_not (s_test (s_op (s_op (s_var (v := .ref n) rfl (s_c (s_ixL (v := .ref z1) (SqL.of (e1.get0 hz1)) (atI_of (by decide) rfl) (s_op (s_var (v := .ref n2) rfl (s_c (s_ixL (v := .ref z2) (SqL.of (e1.get0 hz2)) (atI_of (by decide) rfl) (u_kEq ⟨hk1.ex0 e1, pl1, pl2⟩ ⟨hk2.ex0 e1, pl1, pl2⟩ ?_)))))))))))
    rw [decide_eq_true ⟨rfl, rfl⟩]
    refine s_blQ (s_F rfl (s_next ?_))
    exact rest _ e1
theorem rest12 (F : Own12 K) (hl : goodS l) (hm : goodS m) (hp : PoolAt H a) (hT : Tabs (tabs12 K) H) {x3 x4 x5 x6 x7 x8 x9 x10 x11 x12 x13 x14 : Option V} (k : ∀ H', ExN [a] H H' → Tabs (tabs12 K) H' → Q (.bl true) H') :
    t_rest12 K (E1 Q) [some (.ref a), some (vS l), some (vS m), x3, x4, x5, x6, x7, x8, x9, x10, x11, x12, x13, x14] H := by
  unfold t_rest12
  walk_at "go"
  refine u_couplesU hl hp fun ps p H1 gp np n1 e1 p1 h1 => ?_
  have pa : p ≠ a := fun z => hp.there (z ▸ n1)
  walk_at "go"
  refine u_couplesU hm p1 fun qs q H2 gq nq n2 e2 p2 h2 => ?_
  have qa : q ≠ a := fun z => p1.there (z ▸ n2)
  have h12 := e2.get (by simpa using pa) h1
  have e02 := e1.trans e2
  have t2 := Tabs.exP hp e02 hT
  walk_at "go"
  refine s_tupOf (SqL.of h12) fun o1 H3 n3 e3 h3 => ?_
  walk_at "go"
  refine u_makeKind (s := l) (v := .ref o1) (ps := ps) rfl hl (.inr ⟨o1, rfl, SqT.of h3, gp, by omega⟩) fun x H4 n4 e4 hx => ?_
  walk_at "go"
  refine s_tupOf (SqL.of ((e3.trans e4).get0 h2)) fun o2 H5 n5 e5 h5 => ?_
  walk_at "go"
  refine u_makeKind (s := m) (v := .ref o2) (ps := qs) rfl hm (.inr ⟨o2, rfl, SqT.of h5, gq, by omega⟩) fun y H6 n6 e6 hy => ?_
  have e26 := ((e3.trans e4).trans e5).trans e6
  have A : At12 K a p q x y l m ps qs H6 := ⟨p2.ex e26 (by simp), Tabs.ex0 e26 t2, e26.get0 h12, e26.get0 h2, hx.ex0 (e5.trans e6), hy⟩
  have x06 : ExN [a] H H6 := (ExN.of e02).trans (ExN.of0 e26)
  clear e26 e3 e4 e5 e6 h3 h5 hx hy p2 h1 h2 h12 e1 e2 e02 t2 p1 hT
  walk_at "go"
  rename_i b H7 n7 e7 h7
  have A7 := A.ex0 e7
  refine ⟨l, m, p, q, rfl, ps, qs, hl, hm, gp, by omega, by omega, A7.h1, A7.h2, fun t o H8 nt e8 ht ho => s_gName ?_⟩
  have A8 := A7.ex0 e8
  have x08 : ExN [a] H H8 := x06.trans (ExN.of0 (e7.trans e8))
  clear e7 e8 A A7 h7 x06
  refine s_seq (s_asg (s_near (i := 5) (j := 6) (x := x) (y := y) rfl rfl hl gp gq (by omega) A8.x A8.y A8.t fun n G1 G2 f1 t1 f2 hn => s_gName ?_))
  have B := (A8.exT f1 t1).ex0 f2
  have xB : ExN [a] H8 G2 := (ExN.ofT f1).trans (ExN.of0 f2)
  have ht2 := f2.get0 (f1 _ _ ht fun _ z => by cases z)
  have ho2 := f2.get0 (f1 _ _ ho fun _ z => by cases z)
  clear f1 t1 f2 ht ho A8
  refine s_seq (s_asg (s_near (i := 6) (j := 5) (x := y) (y := x) rfl rfl hm gq gp (by omega) B.y B.x B.t fun n2 G3 G4 f3 t3 f4 hn2 => s_gName ?_))
  have C := (B.exT f3 t3).ex0 f4
  have xC : ExN [a] H G4 := ((x08.trans xB).trans (ExN.ofT f3)).trans (ExN.of0 f4)
  have ht3 := f4.get0 (f3 _ _ ht2 fun _ z => by cases z)
  have ho3 := f4.get0 (f3 _ _ ho2 fun _ z => by cases z)
  have hn3 := (hn.exN (ExN.ofT f3)).ex0 f4
  exact rest12b F hl hm gp gq np nq pa qa C hn3 hn2 ht3 ho3 fun H' e t => k H' (xC.trans e) t
theorem pure_law_right12 (F : Own12 K) (h : sp_law_right12 K vs H Q E) : t_law_right12 K (E1 Q) (start ["_law_pool_here", "_law_abc", "_law_mate_abc", "_law_some", "_law_mate_some", "_law_kind", "_law_mate", "_law_line", "_law_near", "_law_far", "_law_turn", "_law_ring", "_law_due", "_law_odd_here", "_law_rows_here"] vs) H := by
  obtain ⟨a, rfl, hp, hT, k⟩ := h
  show t_law_right12 K (E1 Q) [some (.ref a), none, none, none, none, none, none, none, none, none, none, none, none, none, none] H
  unfold t_law_right12
  have gS : ∀ {l : List Nat}, l ≠ [] → (l.length : Int) ≤ 4 → (∀ c ∈ l, c ∈ LET) → l.Nodup → goodS l := fun h1 h2 h3 h4 => ⟨isWord_mk (List.length_pos_iff.mpr h1) (by omega) h3, by omega, h4⟩
  walk_at "go"
  refine u_signs (by omega) (by omega) hp fun l H1 a1 a2 a3 a4 e1 p1 => ?_
  have hl := gS a1 a2 a3 a4
  walk_at "go"
  refine u_signs (by omega) (by omega) p1 fun m H2 b1 b2 b3 b4 e2 p2 => ?_
  have hm := gS b1 b2 b3 b4
  have e02 := e1.trans e2
  walk_at "go"
  rename_i d H3 d0 d1 e3 p3
  have e03 := e02.trans e3
  have t3 := Tabs.exP hp e03 hT
  clear e1 e2 e3 e02 p1 p2
  have hl4 := hl.2.1
  refine s_2 (fun hb => ?_) (fun hb => ?_)
  · walk_at "go"
    refine u_shufU (xs := l.map fun c => vS [c]) (.inl ⟨l, rfl, rfl⟩) (by rw [List.length_map]; omega) p3 fun ys b H4 hy nb e4 p4 h4 => ?_
    obtain ⟨ns, hns, rfl⟩ := perm_unmap hy l rfl
    have hg := goodS_perm hl hns
    have hn4 := hg.2.1
    have hln := hns.length_eq
    refine s_join0 (ls := ns.map fun c => [c]) (by rw [List.map_map]; exact SqL.of h4) (by rw [flat1]; omega) ?_
    rw [flat1]
    have hll := (isWord_len hl.1).1
    refine s_part (s_call (s_cons (s_var (v := .ref a) rfl (s_cons (s_cb (s_cons (s_var (v := vS l) rfl (s_nil (s_lenS (Nat.le_trans (show l.length ≤ 4 from hl4) (by decide)) (s_nil (u_draw (by omega) (by omega) p4 fun d2 H5 c0 c1 e5 p5 => ⟨d2, rfl, s_noPart (s_slS (Nat.le_trans (show ns.length ≤ 4 from hn4) (by decide)) ?_)⟩)))))))))))
    rw [cut_from c0]
    refine s_gName ?_
    have hd2 : d2.toNat < ns.length := by omega
    have hgd : goodS (ns.drop d2.toNat) := by
      refine gS (fun z => ?_) ?_ (fun c hc => isWord_in hg.1 c (List.mem_of_mem_drop hc)) (hg.2.2.sublist (List.drop_sublist _ _))
      · have := congrArg List.length z
        rw [List.length_drop] at this
        simp at this
        omega
      · rw [List.length_drop]
        omega
    have e05 := (e03.trans e4).trans e5
    exact rest12 F hl hgd p5 (Tabs.exP hp e05 hT) fun H' e t => k H' ((ExN.of e05).trans e) t
  · exact rest12 F hl hm p3 t3 fun H' e t => k H' ((ExN.of e03).trans e) t
theorem pure_law12 (h : sp_law12 K vs H Q E) : t_law12 K (E1 Q) (start ["_law_script", "_law_k"] vs) H := by
  obtain ⟨a, ns, rfl, hs, hl, hT, k⟩ := h
  show t_law12 K (E1 Q) [some (.ref a), none] H
  unfold t_law12
  walk_at "go"
  rw [List.length_map]
  generalize hn : (if (if (6 : Int) < (ns.length : Int) then (6 : Int) else (ns.length : Int)) > 2 then (if (6 : Int) < (ns.length : Int) then (6 : Int) else (ns.length : Int)) else 2) = n
  have hn2 : 0 ≤ n ∧ n ≤ 63 := by subst hn; split <;> (try split) <;> omega
  clear hn
  refine lc_tabs (by omega) hT (fun i H1 C hi e t1 kk => ?_) (fun D H' hd => ?_)
  · walk_at "go"
    refine u_cell (sqL_exN e (by simp) hs) hl (by omega) (by omega) fun c H2 e2 => ?_
    walk_at "go"
    rename_i p H3 hp e3 p3
    refine ⟨p, rfl, p3, Tabs.ex0 (e2.trans e3) t1, fun H4 e4 t4 => ?_⟩
    exact kk _ (ExN.drop (e2.free hp) (e2.trans e3) e4) t4
  · walk_at "go"
    refine s_all (bs := (List.range n.toNat).map fun _ => true) ?_ ?_
    · rw [List.map_map]; exact SqL.of hd
    · have : ((List.range n.toNat).map fun _ => true).all id = true := by simp
      rw [this]
      exact k _
end
end WB
namespace WB
open PySem PySem.Spec PyProof.Rows L2 LamX
structure Tx (K : Fr') (mg : Str → Option Value) : Prop where
  c : SaysW fa fn ex K
  h : ∃ h : Heap, K.In h ∧ h.Ns mainGlobals mg
theorem Tx.g_is_word {K : Fr'} {mg : Str → Option Value} (T : Tx K mg) : mg "is_word" = some (.ref (He.ga K "is_word")) := by
  obtain ⟨h, X, G⟩ := T.h
  exact He.glo_ok X G (T.c.fact 2)
theorem Tx.g_check_signs {K : Fr'} {mg : Str → Option Value} (T : Tx K mg) : mg "check_signs" = some (.ref (He.ga K "check_signs")) := by
  obtain ⟨h, X, G⟩ := T.h
  exact He.glo_ok X G (T.c.fact 4)
theorem Tx.g_least_turning {K : Fr'} {mg : Str → Option Value} (T : Tx K mg) : mg "least_turning" = some (.ref (He.ga K "least_turning")) := by
  obtain ⟨h, X, G⟩ := T.h
  exact He.glo_ok X G (T.c.fact 5)
theorem Tx.g_check_pairs {K : Fr'} {mg : Str → Option Value} (T : Tx K mg) : mg "check_pairs" = some (.ref (He.ga K "check_pairs")) := by
  obtain ⟨h, X, G⟩ := T.h
  exact He.glo_ok X G (T.c.fact 6)
theorem Tx.g_check_kind {K : Fr'} {mg : Str → Option Value} (T : Tx K mg) : mg "check_kind" = some (.ref (He.ga K "check_kind")) := by
  obtain ⟨h, X, G⟩ := T.h
  exact He.glo_ok X G (T.c.fact 7)
theorem Tx.g_law_cell {K : Fr'} {mg : Str → Option Value} (T : Tx K mg) : mg "_law_cell" = some (.ref (He.ga K "_law_cell")) := by
  obtain ⟨h, X, G⟩ := T.h
  exact He.glo_ok X G (T.c.fact 8)
theorem Tx.g_law_pool {K : Fr'} {mg : Str → Option Value} (T : Tx K mg) : mg "_law_pool" = some (.ref (He.ga K "_law_pool")) := by
  obtain ⟨h, X, G⟩ := T.h
  exact He.glo_ok X G (T.c.fact 9)
theorem Tx.g_law_draw {K : Fr'} {mg : Str → Option Value} (T : Tx K mg) : mg "_law_draw" = some (.ref (He.ga K "_law_draw")) := by
  obtain ⟨h, X, G⟩ := T.h
  exact He.glo_ok X G (T.c.fact 10)
theorem Tx.g_law_shufU {K : Fr'} {mg : Str → Option Value} (T : Tx K mg) : mg "_law_shuffled" = some (.ref (He.ga K "_law_shuffled")) := by
  obtain ⟨h, X, G⟩ := T.h
  exact He.glo_ok X G (T.c.fact 11)
theorem Tx.g_law_faceR {K : Fr'} {mg : Str → Option Value} (T : Tx K mg) : mg "_law_face" = some (.ref (He.ga K "_law_face")) := by
  obtain ⟨h, X, G⟩ := T.h
  exact He.glo_ok X G (T.c.fact 12)
theorem Tx.g_law_odd {K : Fr'} {mg : Str → Option Value} (T : Tx K mg) : mg "_law_odd" = some (.ref (He.ga K "_law_odd")) := by
  obtain ⟨h, X, G⟩ := T.h
  exact He.glo_ok X G (T.c.fact 13)
theorem Tx.g_law_signs {K : Fr'} {mg : Str → Option Value} (T : Tx K mg) : mg "_law_signs" = some (.ref (He.ga K "_law_signs")) := by
  obtain ⟨h, X, G⟩ := T.h
  exact He.glo_ok X G (T.c.fact 14)
theorem Tx.g_law_every {K : Fr'} {mg : Str → Option Value} (T : Tx K mg) : mg "_law_every" = some (.ref (He.ga K "_law_every")) := by
  obtain ⟨h, X, G⟩ := T.h
  exact He.glo_ok X G (T.c.fact 15)
theorem Tx.g_law_couplesU {K : Fr'} {mg : Str → Option Value} (T : Tx K mg) : mg "_law_couples" = some (.ref (He.ga K "_law_couples")) := by
  obtain ⟨h, X, G⟩ := T.h
  exact He.glo_ok X G (T.c.fact 16)
theorem Tx.g_law_heard12 {K : Fr'} {mg : Str → Option Value} (T : Tx K mg) : mg "_law_heard" = some (.ref (He.ga K "_law_heard")) := by
  obtain ⟨h, X, G⟩ := T.h
  exact He.glo_ok X G (T.c.fact 17)
theorem Tx.g_law_along12 {K : Fr'} {mg : Str → Option Value} (T : Tx K mg) : mg "_law_along" = some (.ref (He.ga K "_law_along")) := by
  obtain ⟨h, X, G⟩ := T.h
  exact He.glo_ok X G (T.c.fact 18)
theorem Tx.g_law_both12 {K : Fr'} {mg : Str → Option Value} (T : Tx K mg) : mg "_law_both" = some (.ref (He.ga K "_law_both")) := by
  obtain ⟨h, X, G⟩ := T.h
  exact He.glo_ok X G (T.c.fact 19)
theorem Tx.g_law_right12 {K : Fr'} {mg : Str → Option Value} (T : Tx K mg) : mg "_law_right" = some (.ref (He.ga K "_law_right")) := by
  obtain ⟨h, X, G⟩ := T.h
  exact He.glo_ok X G (T.c.fact 20)
theorem Tx.g_law12 {K : Fr'} {mg : Str → Option Value} (T : Tx K mg) : mg "law" = some (.ref (He.ga K "law")) := by
  obtain ⟨h, X, G⟩ := T.h
  exact He.glo_ok X G (T.c.fact 21)
theorem Tx.g_Kind {K : Fr'} {mg : Str → Option Value} (T : Tx K mg) : mg "Kind" = some (.ref (He.ga K "Kind")) := by
  obtain ⟨h, X, G⟩ := T.h
  exact He.glo_ok X G (T.c.fact 22)
theorem Tx.g_MOST_SIGNS {K : Fr'} {mg : Str → Option Value} (T : Tx K mg) : ∃ t, mg "MOST_SIGNS" = some (.int 4 t) := by
  obtain ⟨h, X, G⟩ := T.h
  exact He.int_ok X G (T.c.fact 23)
theorem Tx.g_MOST_WORD {K : Fr'} {mg : Str → Option Value} (T : Tx K mg) : ∃ t, mg "MOST_WORD" = some (.int 600 t) := by
  obtain ⟨h, X, G⟩ := T.h
  exact He.int_ok X G (T.c.fact 24)
theorem Tx.g_NoRing {K : Fr'} {mg : Str → Option Value} (T : Tx K mg) : mg "NoRing" = some (.ref (He.ga K "NoRing")) := by
  obtain ⟨h, X, G⟩ := T.h
  exact He.glo_ok X G (T.c.fact 25)
theorem Tx.g_NotAKind {K : Fr'} {mg : Str → Option Value} (T : Tx K mg) : mg "NotAKind" = some (.ref (He.ga K "NotAKind")) := by
  obtain ⟨h, X, G⟩ := T.h
  exact He.glo_ok X G (T.c.fact 26)
theorem Tx.g_Ring {K : Fr'} {mg : Str → Option Value} (T : Tx K mg) : mg "Ring" = some (.ref (He.ga K "Ring")) := by
  obtain ⟨h, X, G⟩ := T.h
  exact He.glo_ok X G (T.c.fact 27)
theorem Tx.n_abs {K : Fr'} {mg : Str → Option Value} (T : Tx K mg) : mg "abs" = none := by
  obtain ⟨h, X, G⟩ := T.h
  exact He.free_ok X G (T.c.fact 28)
theorem Tx.n_all {K : Fr'} {mg : Str → Option Value} (T : Tx K mg) : mg "all" = none := by
  obtain ⟨h, X, G⟩ := T.h
  exact He.free_ok X G (T.c.fact 29)
theorem Tx.n_bool {K : Fr'} {mg : Str → Option Value} (T : Tx K mg) : mg "bool" = none := by
  obtain ⟨h, X, G⟩ := T.h
  exact He.free_ok X G (T.c.fact 30)
theorem Tx.n_dict {K : Fr'} {mg : Str → Option Value} (T : Tx K mg) : mg "dict" = none := by
  obtain ⟨h, X, G⟩ := T.h
  exact He.free_ok X G (T.c.fact 31)
theorem Tx.n_divmod {K : Fr'} {mg : Str → Option Value} (T : Tx K mg) : mg "divmod" = none := by
  obtain ⟨h, X, G⟩ := T.h
  exact He.free_ok X G (T.c.fact 32)
theorem Tx.n_enumerate {K : Fr'} {mg : Str → Option Value} (T : Tx K mg) : mg "enumerate" = none := by
  obtain ⟨h, X, G⟩ := T.h
  exact He.free_ok X G (T.c.fact 33)
theorem Tx.n_int {K : Fr'} {mg : Str → Option Value} (T : Tx K mg) : mg "int" = none := by
  obtain ⟨h, X, G⟩ := T.h
  exact He.free_ok X G (T.c.fact 34)
theorem Tx.n_isinstance {K : Fr'} {mg : Str → Option Value} (T : Tx K mg) : mg "isinstance" = none := by
  obtain ⟨h, X, G⟩ := T.h
  exact He.free_ok X G (T.c.fact 35)
theorem Tx.n_len {K : Fr'} {mg : Str → Option Value} (T : Tx K mg) : mg "len" = none := by
  obtain ⟨h, X, G⟩ := T.h
  exact He.free_ok X G (T.c.fact 36)
theorem Tx.n_list {K : Fr'} {mg : Str → Option Value} (T : Tx K mg) : mg "list" = none := by
  obtain ⟨h, X, G⟩ := T.h
  exact He.free_ok X G (T.c.fact 37)
theorem Tx.n_max {K : Fr'} {mg : Str → Option Value} (T : Tx K mg) : mg "max" = none := by
  obtain ⟨h, X, G⟩ := T.h
  exact He.free_ok X G (T.c.fact 38)
theorem Tx.n_min {K : Fr'} {mg : Str → Option Value} (T : Tx K mg) : mg "min" = none := by
  obtain ⟨h, X, G⟩ := T.h
  exact He.free_ok X G (T.c.fact 39)
theorem Tx.n_range {K : Fr'} {mg : Str → Option Value} (T : Tx K mg) : mg "range" = none := by
  obtain ⟨h, X, G⟩ := T.h
  exact He.free_ok X G (T.c.fact 40)
theorem Tx.n_set {K : Fr'} {mg : Str → Option Value} (T : Tx K mg) : mg "set" = none := by
  obtain ⟨h, X, G⟩ := T.h
  exact He.free_ok X G (T.c.fact 41)
theorem Tx.n_sorted {K : Fr'} {mg : Str → Option Value} (T : Tx K mg) : mg "sorted" = none := by
  obtain ⟨h, X, G⟩ := T.h
  exact He.free_ok X G (T.c.fact 42)
theorem Tx.n_str {K : Fr'} {mg : Str → Option Value} (T : Tx K mg) : mg "str" = none := by
  obtain ⟨h, X, G⟩ := T.h
  exact He.free_ok X G (T.c.fact 43)
theorem Tx.n_tuple {K : Fr'} {mg : Str → Option Value} (T : Tx K mg) : mg "tuple" = none := by
  obtain ⟨h, X, G⟩ := T.h
  exact He.free_ok X G (T.c.fact 44)
theorem Tx.c_Ring {K : Fr'} {mg : Str → Option Value} (T : Tx K mg) : Cls K (He.ga K "Ring") := He.cls_ok (T.c.fact 45)
theorem Tx.na_Ring_least {K : Fr'} {mg : Str → Option Value} (T : Tx K mg) : NoAttr K (He.ga K "Ring") "least" := He.noat_ok (T.c.fact 46)
theorem Tx.ins_Ring {K : Fr'} {mg : Str → Option Value} (T : Tx K mg) : insB "Ring" K = true := T.c.more 0
theorem Tx.no_Ring {K : Fr'} {mg : Str → Option Value} (T : Tx K mg) : noB "Ring" K = true := T.c.more 1
theorem Tx.mk_Ring {K : Fr'} {mg : Str → Option Value} (T : Tx K mg) : Mk K (He.ga K "Ring") (He.ma K (He.ga K "Ring") "__init__") := He.mkr_ok (T.c.fact 47)
theorem Tx.c_Kind {K : Fr'} {mg : Str → Option Value} (T : Tx K mg) : Cls K (He.ga K "Kind") := He.cls_ok (T.c.fact 48)
theorem Tx.na_Kind_letters {K : Fr'} {mg : Str → Option Value} (T : Tx K mg) : NoAttr K (He.ga K "Kind") "letters" := He.noat_ok (T.c.fact 49)
theorem Tx.na_Kind_allowed {K : Fr'} {mg : Str → Option Value} (T : Tx K mg) : NoAttr K (He.ga K "Kind") "allowed" := He.noat_ok (T.c.fact 50)
theorem Tx.ins_Kind {K : Fr'} {mg : Str → Option Value} (T : Tx K mg) : insB "Kind" K = true := T.c.more 2
theorem Tx.no_Kind {K : Fr'} {mg : Str → Option Value} (T : Tx K mg) : noB "Kind" K = true := T.c.more 3
theorem Tx.mk_Kind {K : Fr'} {mg : Str → Option Value} (T : Tx K mg) : Mk K (He.ga K "Kind") (He.ma K (He.ga K "Kind") "__init__") := He.mkr_ok (T.c.fact 51)
theorem Tx.sf_Kind {K : Fr'} {mg : Str → Option Value} (T : Tx K mg) : PySem.W.selfFirst K (He.ga K "Kind") = true := T.c.more 4
theorem Tx.xk_NotAKind {K : Fr'} {mg : Str → Option Value} (T : Tx K mg) : ExcK K (He.ga K "NotAKind") (He.ma K (He.ga K "NotAKind") "__init__") "given" := excKB_ok (T.c.more 5)
theorem Tx.xk_NoRing {K : Fr'} {mg : Str → Option Value} (T : Tx K mg) : ExcN K (He.ga K "NoRing") (He.ma K (He.ga K "NoRing") "__init__") := excNB_ok (T.c.more 6)
theorem Tx.exm {K : Fr'} {mg : Str → Option Value} (T : Tx K mg) : ExmAll K ["NotAKind", "NoRing"] := exmAllB_ok (T.c.more 7)
theorem Tx.ne_Kind_Ring {K : Fr'} {mg : Str → Option Value} (T : Tx K mg) : He.ga K "Kind" ≠ He.ga K "Ring" := of_decide_eq_true (T.c.more 8)
theorem Tx.nb_Kind_and {K : Fr'} {mg : Str → Option Value} (T : Tx K mg) : NoBin K (He.ga K "Ring") "and" := noBinB_ok (T.c.more 9)
theorem Tx.kitR {K : Fr'} {mg : Str → Option Value} (T : Tx K mg) : ∀ n ∈ (["tuple", "list", "dict", "bool"] : List String), PySem.W.kitOne K (.ref (He.ga K "Ring")) (.type n) = some false := kitTB_ok (T.c.more 10)
theorem Tx.kn_Kind_Ring {K : Fr'} {mg : Str → Option Value} (T : Tx K mg) : PySem.W.kitOne K (.ref (He.ga K "Kind")) (.ref (He.ga K "Ring")) = some false := kitNB_ok (T.c.more 11)
theorem Tx.kn_Ring_Kind {K : Fr'} {mg : Str → Option Value} (T : Tx K mg) : PySem.W.kitOne K (.ref (He.ga K "Ring")) (.ref (He.ga K "Kind")) = some false := kitNB_ok (T.c.more 12)
theorem Tx.p_Ring_text {K : Fr'} {mg : Str → Option Value} (T : Tx K mg) : PropOf K (He.ga K "Ring") "text" (He.ma K (He.ga K "Ring") "text") (He5.wf K (He.ga K "Ring") "property" "text") := propB_ok (T.c.more 13)
theorem Tx.p_Kind_row {K : Fr'} {mg : Str → Option Value} (T : Tx K mg) : PropOf K (He.ga K "Kind") "row" (He.ma K (He.ga K "Kind") "row") (He5.wf K (He.ga K "Kind") "property" "row") := propB_ok (T.c.more 14)
theorem Tx.m_Kind_closes {K : Fr'} {mg : Str → Option Value} (T : Tx K mg) : Meth K (He.ga K "Kind") "closes" (He.ma K (He.ga K "Kind") "closes") := He.meth_ok (T.c.fact 52)
theorem Tx.s_Kind_eq {K : Fr'} {mg : Str → Option Value} (T : Tx K mg) : Spec1 K (He.ga K "Kind") "__eq__" (He.ma K (He.ga K "Kind") "__eq__") := specB_ok (T.c.more 15)
theorem Tx.s_Kind_contains {K : Fr'} {mg : Str → Option Value} (T : Tx K mg) : Spec1 K (He.ga K "Kind") "__contains__" (He.ma K (He.ga K "Kind") "__contains__") := specB_ok (T.c.more 16)
theorem Tx.s_Kind_and {K : Fr'} {mg : Str → Option Value} (T : Tx K mg) : Spec1 K (He.ga K "Kind") "__and__" (He.ma K (He.ga K "Kind") "__and__") := specB_ok (T.c.more 17)
theorem Tx.bta_Kind_and {K : Fr'} {mg : Str → Option Value} (T : Tx K mg) : BinTs K (He.ga K "Kind") "and" (He.ma K (He.ga K "Kind") "__and__") := binBs_ok (T.c.more 18)
theorem Tx.ringK {K : Fr'} {mg : Str → Option Value} (T : Tx K mg) : RingK K := ⟨T.c_Ring, T.na_Ring_least, (insB_ok T.c_Ring T.ins_Ring).1, (insB_ok T.c_Ring T.ins_Ring).2, noB_ok T.no_Ring⟩
theorem Tx.kindK {K : Fr'} {mg : Str → Option Value} (T : Tx K mg) : KindK K := ⟨T.c_Kind, T.na_Kind_letters, T.na_Kind_allowed, (insB_ok T.c_Kind T.ins_Kind).1, (insB_ok T.c_Kind T.ins_Kind).2, noB_ok T.no_Kind, T.kn_Kind_Ring, T.kn_Ring_Kind⟩
theorem Tx.own12 {K : Fr'} {mg : Str → Option Value} (T : Tx K mg) : Own12 K := ⟨T.kindK, T.ringK, T.kitR⟩
theorem Tx.f_is_word {K : Fr'} {mg : Str → Option Value} (T : Tx K mg) : FunD K "is_word" "is_word" (defArgs st_is_word) (defBody st_is_word) (defScope st_is_word) (d_is_word.dvs K) (d_is_word.kws K) (He.ga K "is_word") (fdOf K (He.ga K "is_word")) := T.c.def_ 2 (d := d_is_word)
theorem Tx.k_is_word {K : Fr'} {mg : Str → Option Value} (T : Tx K mg) : PySem.W.keepIn K (.ref (He.ga K "is_word")) = true := T.f_is_word.kp
theorem Tx.bf_is_word {K : Fr'} {mg : Str → Option Value} (T : Tx K mg) : Binds K (fdOf K (He.ga K "is_word")) ["value", "signs"] [] := by
  have h := FunD.binds1 (ps := ["value", "signs"]) (T.f_is_word) 2 1 (by simp [d_is_word, He5.DefA.dvs]) (by rfl) (fun _ _ _ _ _ _ _ us its h1 h2 => match us, its, h1, h2 with | [_, _], [_], _, _ => ⟨_, rfl, rfl⟩)
  obtain ⟨ds, hv, hb⟩ := h
  have e : (d_is_word.dvs K).drop 1 = [] := rfl
  rw [e] at hv
  cases hv
  exact hb
theorem Tx.bd1_is_word {K : Fr'} {mg : Str → Option Value} (T : Tx K mg) : ∃ ds, Vals [(vS LET)] ds ∧ Binds K (fdOf K (He.ga K "is_word")) ["value", "signs"] ds := by
  have h := FunD.binds1 (ps := ["value", "signs"]) (T.f_is_word) 1 0 (by simp [d_is_word, He5.DefA.dvs]) (by rfl) (fun _ _ _ _ _ _ _ us its h1 h2 => match us, its, h1, h2 with | [_], [_], _, _ => ⟨_, rfl, rfl⟩)
  obtain ⟨ds, hv, hb⟩ := h
  refine ⟨ds, ?_, hb⟩
  have e : (d_is_word.dvs K).drop 0 = [(vS LET)] := by
    simp only [d_is_word, He5.DefA.dvs, List.map, List.drop, He.Dv.v, lit_abc]
  rw [← e]
  exact hv
theorem Tx.f_check_signs {K : Fr'} {mg : Str → Option Value} (T : Tx K mg) : FunD K "check_signs" "check_signs" (defArgs st_check_signs) (defBody st_check_signs) (defScope st_check_signs) (d_check_signs.dvs K) (d_check_signs.kws K) (He.ga K "check_signs") (fdOf K (He.ga K "check_signs")) := T.c.def_ 4 (d := d_check_signs)
theorem Tx.k_check_signs {K : Fr'} {mg : Str → Option Value} (T : Tx K mg) : PySem.W.keepIn K (.ref (He.ga K "check_signs")) = true := T.f_check_signs.kp
theorem Tx.b_check_signs {K : Fr'} {mg : Str → Option Value} (T : Tx K mg) : Binds K (fdOf K (He.ga K "check_signs")) ["signs"] [] := FunD.bindsN (kws := d_check_signs.kws K) (T.f_check_signs) fun _ _ _ _ _ _ us hl => match us, hl with | [_], _ => rfl
theorem Tx.f_least_turning {K : Fr'} {mg : Str → Option Value} (T : Tx K mg) : FunD K "least_turning" "least_turning" (defArgs st_least_turning) (defBody st_least_turning) (defScope st_least_turning) (d_least_turning.dvs K) (d_least_turning.kws K) (He.ga K "least_turning") (fdOf K (He.ga K "least_turning")) := T.c.def_ 5 (d := d_least_turning)
theorem Tx.k_least_turning {K : Fr'} {mg : Str → Option Value} (T : Tx K mg) : PySem.W.keepIn K (.ref (He.ga K "least_turning")) = true := T.f_least_turning.kp
theorem Tx.b_least_turning {K : Fr'} {mg : Str → Option Value} (T : Tx K mg) : Binds K (fdOf K (He.ga K "least_turning")) ["text"] [] := FunD.bindsN (kws := d_least_turning.kws K) (T.f_least_turning) fun _ _ _ _ _ _ us hl => match us, hl with | [_], _ => rfl
theorem Tx.f_Ring_init {K : Fr'} {mg : Str → Option Value} (T : Tx K mg) : FunD K "__init__" "Ring.__init__" (defArgs st_Ring_init) (defBody st_Ring_init) (defScope st_Ring_init) (d_Ring_init.dvs K) (d_Ring_init.kws K) (He.ma K (He.ga K "Ring") "__init__") (fdOf K (He.ma K (He.ga K "Ring") "__init__")) := T.c.def_ 6 (d := d_Ring_init)
theorem Tx.b_Ring_init {K : Fr'} {mg : Str → Option Value} (T : Tx K mg) : Binds K (fdOf K (He.ma K (He.ga K "Ring") "__init__")) ["self", "text"] [] := FunD.bindsN (kws := d_Ring_init.kws K) (T.f_Ring_init) fun _ _ _ _ _ _ us hl => match us, hl with | [_, _], _ => rfl
theorem Tx.f_Ring_text {K : Fr'} {mg : Str → Option Value} (T : Tx K mg) : FunD K "text" "Ring.text" (defArgs st_Ring_text) (defBody st_Ring_text) (defScope st_Ring_text) (d_Ring_text.dvs K) (d_Ring_text.kws K) (He5.wf K (He.ga K "Ring") "property" "text") (fdOf K (He5.wf K (He.ga K "Ring") "property" "text")) := T.c.def_ 7 (d := d_Ring_text)
theorem Tx.b_Ring_text {K : Fr'} {mg : Str → Option Value} (T : Tx K mg) : Binds K (fdOf K (He5.wf K (He.ga K "Ring") "property" "text")) ["self"] [] := FunD.bindsN (kws := d_Ring_text.kws K) (T.f_Ring_text) fun _ _ _ _ _ _ us hl => match us, hl with | [_], _ => rfl
theorem Tx.f_check_pairs {K : Fr'} {mg : Str → Option Value} (T : Tx K mg) : FunD K "check_pairs" "check_pairs" (defArgs st_check_pairs) (defBody st_check_pairs) (defScope st_check_pairs) (d_check_pairs.dvs K) (d_check_pairs.kws K) (He.ga K "check_pairs") (fdOf K (He.ga K "check_pairs")) := T.c.def_ 8 (d := d_check_pairs)
theorem Tx.k_check_pairs {K : Fr'} {mg : Str → Option Value} (T : Tx K mg) : PySem.W.keepIn K (.ref (He.ga K "check_pairs")) = true := T.f_check_pairs.kp
theorem Tx.b_check_pairs {K : Fr'} {mg : Str → Option Value} (T : Tx K mg) : Binds K (fdOf K (He.ga K "check_pairs")) ["signs", "pairs"] [] := FunD.bindsN (kws := d_check_pairs.kws K) (T.f_check_pairs) fun _ _ _ _ _ _ us hl => match us, hl with | [_, _], _ => rfl
theorem Tx.f_check_kind {K : Fr'} {mg : Str → Option Value} (T : Tx K mg) : FunD K "check_kind" "check_kind" (defArgs st_check_kind) (defBody st_check_kind) (defScope st_check_kind) (d_check_kind.dvs K) (d_check_kind.kws K) (He.ga K "check_kind") (fdOf K (He.ga K "check_kind")) := T.c.def_ 9 (d := d_check_kind)
theorem Tx.k_check_kind {K : Fr'} {mg : Str → Option Value} (T : Tx K mg) : PySem.W.keepIn K (.ref (He.ga K "check_kind")) = true := T.f_check_kind.kp
theorem Tx.b_check_kind {K : Fr'} {mg : Str → Option Value} (T : Tx K mg) : Binds K (fdOf K (He.ga K "check_kind")) ["value"] [] := FunD.bindsN (kws := d_check_kind.kws K) (T.f_check_kind) fun _ _ _ _ _ _ us hl => match us, hl with | [_], _ => rfl
theorem Tx.f_Kind_init {K : Fr'} {mg : Str → Option Value} (T : Tx K mg) : FunD K "__init__" "Kind.__init__" (defArgs st_Kind_init) (defBody st_Kind_init) (defScope st_Kind_init) (d_Kind_init.dvs K) (d_Kind_init.kws K) (He.ma K (He.ga K "Kind") "__init__") (fdOf K (He.ma K (He.ga K "Kind") "__init__")) := T.c.def_ 10 (d := d_Kind_init)
theorem Tx.bf_Kind_init {K : Fr'} {mg : Str → Option Value} (T : Tx K mg) : Binds K (fdOf K (He.ma K (He.ga K "Kind") "__init__")) ["self", "signs", "pairs"] [] := by
  have h := FunD.binds1 (ps := ["self", "signs", "pairs"]) (T.f_Kind_init) 3 1 (by simp [d_Kind_init, He5.DefA.dvs]) (by rfl) (fun _ _ _ _ _ _ _ us its h1 h2 => match us, its, h1, h2 with | [_, _, _], [_], _, _ => ⟨_, rfl, rfl⟩)
  obtain ⟨ds, hv, hb⟩ := h
  have e : (d_Kind_init.dvs K).drop 1 = [] := rfl
  rw [e] at hv
  cases hv
  exact hb
theorem Tx.f_Kind_row {K : Fr'} {mg : Str → Option Value} (T : Tx K mg) : FunD K "row" "Kind.row" (defArgs st_Kind_row) (defBody st_Kind_row) (defScope st_Kind_row) (d_Kind_row.dvs K) (d_Kind_row.kws K) (He5.wf K (He.ga K "Kind") "property" "row") (fdOf K (He5.wf K (He.ga K "Kind") "property" "row")) := T.c.def_ 11 (d := d_Kind_row)
theorem Tx.b_Kind_row {K : Fr'} {mg : Str → Option Value} (T : Tx K mg) : Binds K (fdOf K (He5.wf K (He.ga K "Kind") "property" "row")) ["self"] [] := FunD.bindsN (kws := d_Kind_row.kws K) (T.f_Kind_row) fun _ _ _ _ _ _ us hl => match us, hl with | [_], _ => rfl
theorem Tx.f_Kind_closes {K : Fr'} {mg : Str → Option Value} (T : Tx K mg) : FunD K "closes" "Kind.closes" (defArgs st_Kind_closes) (defBody st_Kind_closes) (defScope st_Kind_closes) (d_Kind_closes.dvs K) (d_Kind_closes.kws K) (He.ma K (He.ga K "Kind") "closes") (fdOf K (He.ma K (He.ga K "Kind") "closes")) := T.c.def_ 12 (d := d_Kind_closes)
theorem Tx.b_Kind_closes {K : Fr'} {mg : Str → Option Value} (T : Tx K mg) : Binds K (fdOf K (He.ma K (He.ga K "Kind") "closes")) ["self", "text"] [] := FunD.bindsN (kws := d_Kind_closes.kws K) (T.f_Kind_closes) fun _ _ _ _ _ _ us hl => match us, hl with | [_, _], _ => rfl
theorem Tx.f_Kind_eq {K : Fr'} {mg : Str → Option Value} (T : Tx K mg) : FunD K "__eq__" "Kind.__eq__" (defArgs st_Kind_eq) (defBody st_Kind_eq) (defScope st_Kind_eq) (d_Kind_eq.dvs K) (d_Kind_eq.kws K) (He.ma K (He.ga K "Kind") "__eq__") (fdOf K (He.ma K (He.ga K "Kind") "__eq__")) := T.c.def_ 13 (d := d_Kind_eq)
theorem Tx.b_Kind_eq {K : Fr'} {mg : Str → Option Value} (T : Tx K mg) : Binds K (fdOf K (He.ma K (He.ga K "Kind") "__eq__")) ["self", "other"] [] := FunD.bindsN (kws := d_Kind_eq.kws K) (T.f_Kind_eq) fun _ _ _ _ _ _ us hl => match us, hl with | [_, _], _ => rfl
theorem Tx.f_Kind_contains {K : Fr'} {mg : Str → Option Value} (T : Tx K mg) : FunD K "__contains__" "Kind.__contains__" (defArgs st_Kind_contains) (defBody st_Kind_contains) (defScope st_Kind_contains) (d_Kind_contains.dvs K) (d_Kind_contains.kws K) (He.ma K (He.ga K "Kind") "__contains__") (fdOf K (He.ma K (He.ga K "Kind") "__contains__")) := T.c.def_ 14 (d := d_Kind_contains)
theorem Tx.b_Kind_contains {K : Fr'} {mg : Str → Option Value} (T : Tx K mg) : Binds K (fdOf K (He.ma K (He.ga K "Kind") "__contains__")) ["self", "value"] [] := FunD.bindsN (kws := d_Kind_contains.kws K) (T.f_Kind_contains) fun _ _ _ _ _ _ us hl => match us, hl with | [_, _], _ => rfl
theorem Tx.f_Kind_and {K : Fr'} {mg : Str → Option Value} (T : Tx K mg) : FunD K "__and__" "Kind.__and__" (defArgs st_Kind_and) (defBody st_Kind_and) (defScope st_Kind_and) (d_Kind_and.dvs K) (d_Kind_and.kws K) (He.ma K (He.ga K "Kind") "__and__") (fdOf K (He.ma K (He.ga K "Kind") "__and__")) := T.c.def_ 15 (d := d_Kind_and)
theorem Tx.b_Kind_and {K : Fr'} {mg : Str → Option Value} (T : Tx K mg) : Binds K (fdOf K (He.ma K (He.ga K "Kind") "__and__")) ["self", "other"] [] := FunD.bindsN (kws := d_Kind_and.kws K) (T.f_Kind_and) fun _ _ _ _ _ _ us hl => match us, hl with | [_, _], _ => rfl
theorem Tx.f_law_cell {K : Fr'} {mg : Str → Option Value} (T : Tx K mg) : FunD K "_law_cell" "_law_cell" (defArgs st_law_cell) (defBody st_law_cell) (defScope st_law_cell) (d_law_cell.dvs K) (d_law_cell.kws K) (He.ga K "_law_cell") (fdOf K (He.ga K "_law_cell")) := T.c.def_ 16 (d := d_law_cell)
theorem Tx.k_law_cell {K : Fr'} {mg : Str → Option Value} (T : Tx K mg) : PySem.W.keepIn K (.ref (He.ga K "_law_cell")) = true := T.f_law_cell.kp
theorem Tx.b_law_cell {K : Fr'} {mg : Str → Option Value} (T : Tx K mg) : Binds K (fdOf K (He.ga K "_law_cell")) ["_law_script", "_law_k"] [] := FunD.bindsN (kws := d_law_cell.kws K) (T.f_law_cell) fun _ _ _ _ _ _ us hl => match us, hl with | [_, _], _ => rfl
theorem Tx.f_law_pool {K : Fr'} {mg : Str → Option Value} (T : Tx K mg) : FunD K "_law_pool" "_law_pool" (defArgs st_law_pool) (defBody st_law_pool) (defScope st_law_pool) (d_law_pool.dvs K) (d_law_pool.kws K) (He.ga K "_law_pool") (fdOf K (He.ga K "_law_pool")) := T.c.def_ 17 (d := d_law_pool)
theorem Tx.k_law_pool {K : Fr'} {mg : Str → Option Value} (T : Tx K mg) : PySem.W.keepIn K (.ref (He.ga K "_law_pool")) = true := T.f_law_pool.kp
theorem Tx.b_law_pool {K : Fr'} {mg : Str → Option Value} (T : Tx K mg) : Binds K (fdOf K (He.ga K "_law_pool")) ["_law_cell_here"] [] := FunD.bindsN (kws := d_law_pool.kws K) (T.f_law_pool) fun _ _ _ _ _ _ us hl => match us, hl with | [_], _ => rfl
theorem Tx.f_law_draw {K : Fr'} {mg : Str → Option Value} (T : Tx K mg) : FunD K "_law_draw" "_law_draw" (defArgs st_law_draw) (defBody st_law_draw) (defScope st_law_draw) (d_law_draw.dvs K) (d_law_draw.kws K) (He.ga K "_law_draw") (fdOf K (He.ga K "_law_draw")) := T.c.def_ 18 (d := d_law_draw)
theorem Tx.k_law_draw {K : Fr'} {mg : Str → Option Value} (T : Tx K mg) : PySem.W.keepIn K (.ref (He.ga K "_law_draw")) = true := T.f_law_draw.kp
theorem Tx.b_law_draw {K : Fr'} {mg : Str → Option Value} (T : Tx K mg) : Binds K (fdOf K (He.ga K "_law_draw")) ["_law_pool_here", "_law_many"] [] := FunD.bindsN (kws := d_law_draw.kws K) (T.f_law_draw) fun _ _ _ _ _ _ us hl => match us, hl with | [_, _], _ => rfl
theorem Tx.f_law_shufU {K : Fr'} {mg : Str → Option Value} (T : Tx K mg) : FunD K "_law_shuffled" "_law_shuffled" (defArgs st_law_shufU) (defBody st_law_shufU) (defScope st_law_shufU) (d_law_shufU.dvs K) (d_law_shufU.kws K) (He.ga K "_law_shuffled") (fdOf K (He.ga K "_law_shuffled")) := T.c.def_ 19 (d := d_law_shufU)
theorem Tx.k_law_shufU {K : Fr'} {mg : Str → Option Value} (T : Tx K mg) : PySem.W.keepIn K (.ref (He.ga K "_law_shuffled")) = true := T.f_law_shufU.kp
theorem Tx.b_law_shufU {K : Fr'} {mg : Str → Option Value} (T : Tx K mg) : Binds K (fdOf K (He.ga K "_law_shuffled")) ["_law_pool_here", "_law_things"] [] := FunD.bindsN (kws := d_law_shufU.kws K) (T.f_law_shufU) fun _ _ _ _ _ _ us hl => match us, hl with | [_, _], _ => rfl
theorem Tx.f_law_faceR {K : Fr'} {mg : Str → Option Value} (T : Tx K mg) : FunD K "_law_face" "_law_face" (defArgs st_law_faceR) (defBody st_law_faceR) (defScope st_law_faceR) (d_law_faceR.dvs K) (d_law_faceR.kws K) (He.ga K "_law_face") (fdOf K (He.ga K "_law_face")) := T.c.def_ 20 (d := d_law_faceR)
theorem Tx.k_law_faceR {K : Fr'} {mg : Str → Option Value} (T : Tx K mg) : PySem.W.keepIn K (.ref (He.ga K "_law_face")) = true := T.f_law_faceR.kp
theorem Tx.b_law_faceR {K : Fr'} {mg : Str → Option Value} (T : Tx K mg) : Binds K (fdOf K (He.ga K "_law_face")) ["_law_thing"] [] := FunD.bindsN (kws := d_law_faceR.kws K) (T.f_law_faceR) fun _ _ _ _ _ _ us hl => match us, hl with | [_], _ => rfl
theorem Tx.f_law_odd {K : Fr'} {mg : Str → Option Value} (T : Tx K mg) : FunD K "_law_odd" "_law_odd" (defArgs st_law_odd) (defBody st_law_odd) (defScope st_law_odd) (d_law_odd.dvs K) (d_law_odd.kws K) (He.ga K "_law_odd") (fdOf K (He.ga K "_law_odd")) := T.c.def_ 21 (d := d_law_odd)
theorem Tx.k_law_odd {K : Fr'} {mg : Str → Option Value} (T : Tx K mg) : PySem.W.keepIn K (.ref (He.ga K "_law_odd")) = true := T.f_law_odd.kp
theorem Tx.b_law_odd {K : Fr'} {mg : Str → Option Value} (T : Tx K mg) : Binds K (fdOf K (He.ga K "_law_odd")) ["_law_pool_here"] [] := FunD.bindsN (kws := d_law_odd.kws K) (T.f_law_odd) fun _ _ _ _ _ _ us hl => match us, hl with | [_], _ => rfl
theorem Tx.f_law_signs {K : Fr'} {mg : Str → Option Value} (T : Tx K mg) : FunD K "_law_signs" "_law_signs" (defArgs st_law_signs) (defBody st_law_signs) (defScope st_law_signs) (d_law_signs.dvs K) (d_law_signs.kws K) (He.ga K "_law_signs") (fdOf K (He.ga K "_law_signs")) := T.c.def_ 22 (d := d_law_signs)
theorem Tx.k_law_signs {K : Fr'} {mg : Str → Option Value} (T : Tx K mg) : PySem.W.keepIn K (.ref (He.ga K "_law_signs")) = true := T.f_law_signs.kp
theorem Tx.b_law_signs {K : Fr'} {mg : Str → Option Value} (T : Tx K mg) : Binds K (fdOf K (He.ga K "_law_signs")) ["_law_pool_here", "_law_most"] [] := FunD.bindsN (kws := d_law_signs.kws K) (T.f_law_signs) fun _ _ _ _ _ _ us hl => match us, hl with | [_, _], _ => rfl
theorem Tx.f_law_every {K : Fr'} {mg : Str → Option Value} (T : Tx K mg) : FunD K "_law_every" "_law_every" (defArgs st_law_every) (defBody st_law_every) (defScope st_law_every) (d_law_every.dvs K) (d_law_every.kws K) (He.ga K "_law_every") (fdOf K (He.ga K "_law_every")) := T.c.def_ 23 (d := d_law_every)
theorem Tx.k_law_every {K : Fr'} {mg : Str → Option Value} (T : Tx K mg) : PySem.W.keepIn K (.ref (He.ga K "_law_every")) = true := T.f_law_every.kp
theorem Tx.b_law_every {K : Fr'} {mg : Str → Option Value} (T : Tx K mg) : Binds K (fdOf K (He.ga K "_law_every")) ["_law_abc"] [] := FunD.bindsN (kws := d_law_every.kws K) (T.f_law_every) fun _ _ _ _ _ _ us hl => match us, hl with | [_], _ => rfl
theorem Tx.f_law_couplesU {K : Fr'} {mg : Str → Option Value} (T : Tx K mg) : FunD K "_law_couples" "_law_couples" (defArgs st_law_couplesU) (defBody st_law_couplesU) (defScope st_law_couplesU) (d_law_couplesU.dvs K) (d_law_couplesU.kws K) (He.ga K "_law_couples") (fdOf K (He.ga K "_law_couples")) := T.c.def_ 24 (d := d_law_couplesU)
theorem Tx.k_law_couplesU {K : Fr'} {mg : Str → Option Value} (T : Tx K mg) : PySem.W.keepIn K (.ref (He.ga K "_law_couples")) = true := T.f_law_couplesU.kp
theorem Tx.b_law_couplesU {K : Fr'} {mg : Str → Option Value} (T : Tx K mg) : Binds K (fdOf K (He.ga K "_law_couples")) ["_law_pool_here", "_law_abc"] [] := FunD.bindsN (kws := d_law_couplesU.kws K) (T.f_law_couplesU) fun _ _ _ _ _ _ us hl => match us, hl with | [_, _], _ => rfl
theorem Tx.f_law_heard12 {K : Fr'} {mg : Str → Option Value} (T : Tx K mg) : FunD K "_law_heard" "_law_heard" (defArgs st_law_heard12) (defBody st_law_heard12) (defScope st_law_heard12) (d_law_heard12.dvs K) (d_law_heard12.kws K) (He.ga K "_law_heard") (fdOf K (He.ga K "_law_heard")) := T.c.def_ 25 (d := d_law_heard12)
theorem Tx.b_law_heard12 {K : Fr'} {mg : Str → Option Value} (T : Tx K mg) : Binds K (fdOf K (He.ga K "_law_heard")) ["_law_act"] [] := FunD.bindsN (kws := d_law_heard12.kws K) (T.f_law_heard12) fun _ _ _ _ _ _ us hl => match us, hl with | [_], _ => rfl
theorem Tx.f_law_along12 {K : Fr'} {mg : Str → Option Value} (T : Tx K mg) : FunD K "_law_along" "_law_along" (defArgs st_law_along12) (defBody st_law_along12) (defScope st_law_along12) (d_law_along12.dvs K) (d_law_along12.kws K) (He.ga K "_law_along") (fdOf K (He.ga K "_law_along")) := T.c.def_ 26 (d := d_law_along12)
theorem Tx.k_law_along12 {K : Fr'} {mg : Str → Option Value} (T : Tx K mg) : PySem.W.keepIn K (.ref (He.ga K "_law_along")) = true := T.f_law_along12.kp
theorem Tx.b_law_along12 {K : Fr'} {mg : Str → Option Value} (T : Tx K mg) : Binds K (fdOf K (He.ga K "_law_along")) ["_law_pool_here", "_law_abc", "_law_some"] [] := FunD.bindsN (kws := d_law_along12.kws K) (T.f_law_along12) fun _ _ _ _ _ _ us hl => match us, hl with | [_, _, _], _ => rfl
theorem Tx.f_law_both12 {K : Fr'} {mg : Str → Option Value} (T : Tx K mg) : FunD K "_law_both" "_law_both" (defArgs st_law_both12) (defBody st_law_both12) (defScope st_law_both12) (d_law_both12.dvs K) (d_law_both12.kws K) (He.ga K "_law_both") (fdOf K (He.ga K "_law_both")) := T.c.def_ 27 (d := d_law_both12)
theorem Tx.k_law_both12 {K : Fr'} {mg : Str → Option Value} (T : Tx K mg) : PySem.W.keepIn K (.ref (He.ga K "_law_both")) = true := T.f_law_both12.kp
theorem Tx.b_law_both12 {K : Fr'} {mg : Str → Option Value} (T : Tx K mg) : Binds K (fdOf K (He.ga K "_law_both")) ["_law_abc", "_law_mate_abc", "_law_some", "_law_mate_some"] [] := FunD.bindsN (kws := d_law_both12.kws K) (T.f_law_both12) fun _ _ _ _ _ _ us hl => match us, hl with | [_, _, _, _], _ => rfl
theorem Tx.f_law_right12 {K : Fr'} {mg : Str → Option Value} (T : Tx K mg) : FunD K "_law_right" "_law_right" (defArgs st_law_right12) (defBody st_law_right12) (defScope st_law_right12) (d_law_right12.dvs K) (d_law_right12.kws K) (He.ga K "_law_right") (fdOf K (He.ga K "_law_right")) := T.c.def_ 28 (d := d_law_right12)
theorem Tx.k_law_right12 {K : Fr'} {mg : Str → Option Value} (T : Tx K mg) : PySem.W.keepIn K (.ref (He.ga K "_law_right")) = true := T.f_law_right12.kp
theorem Tx.b_law_right12 {K : Fr'} {mg : Str → Option Value} (T : Tx K mg) : Binds K (fdOf K (He.ga K "_law_right")) ["_law_pool_here"] [] := FunD.bindsN (kws := d_law_right12.kws K) (T.f_law_right12) fun _ _ _ _ _ _ us hl => match us, hl with | [_], _ => rfl
theorem Tx.f_law12 {K : Fr'} {mg : Str → Option Value} (T : Tx K mg) : FunD K "law" "law" (defArgs st_law12) (defBody st_law12) (defScope st_law12) (d_law12.dvs K) (d_law12.kws K) (He.ga K "law") (fdOf K (He.ga K "law")) := T.c.def_ 29 (d := d_law12)
theorem Tx.f_NotAKind_init {K : Fr'} {mg : Str → Option Value} (T : Tx K mg) : FunD K "__init__" "NotAKind.__init__" (defArgs st_NotAKind_init) (defBody st_NotAKind_init) (defScope st_NotAKind_init) (d_NotAKind_init.dvs K) (d_NotAKind_init.kws K) (He.ma K (He.ga K "NotAKind") "__init__") (fdOf K (He.ma K (He.ga K "NotAKind") "__init__")) := T.c.def_ 30 (d := d_NotAKind_init)
theorem Tx.b_NotAKind_init {K : Fr'} {mg : Str → Option Value} (T : Tx K mg) : Binds K (fdOf K (He.ma K (He.ga K "NotAKind") "__init__")) ["self", "given"] [] := FunD.bindsN (kws := d_NotAKind_init.kws K) (T.f_NotAKind_init) fun _ _ _ _ _ _ us hl => match us, hl with | [_, _], _ => rfl
theorem Tx.f_NoRing_init {K : Fr'} {mg : Str → Option Value} (T : Tx K mg) : FunD K "__init__" "NoRing.__init__" (defArgs st_NoRing_init) (defBody st_NoRing_init) (defScope st_NoRing_init) (d_NoRing_init.dvs K) (d_NoRing_init.kws K) (He.ma K (He.ga K "NoRing") "__init__") (fdOf K (He.ma K (He.ga K "NoRing") "__init__")) := T.c.def_ 31 (d := d_NoRing_init)
theorem Tx.b_NoRing_init {K : Fr'} {mg : Str → Option Value} (T : Tx K mg) : Binds K (fdOf K (He.ma K (He.ga K "NoRing") "__init__")) ["self"] [] := FunD.bindsN (kws := d_NoRing_init.kws K) (T.f_NoRing_init) fun _ _ _ _ _ _ us hl => match us, hl with | [_], _ => rfl
theorem Tx.tu_law_right12 {K : Fr'} {mg : Str → Option Value} (T : Tx K mg) : ∀ p ∈ tabs12 K, p.1 = (He.cT K ("_law_right", none)).2 → p.2 = ("_law_right" ++ ".<locals>.") ++ "<lambda>" := fun p hp _ => by
  rw [List.mem_singleton.mp hp]
theorem sc_NotAKind_init : FnScope ["self", "given"] ["self", "given"] (defScope st_NotAKind_init) := ⟨rfl, rfl, rfl, by decide +kernel, rfl, by decide +kernel, by decide +kernel⟩
theorem sc_NoRing_init : FnScope ["self"] ["self"] (defScope st_NoRing_init) := ⟨rfl, rfl, rfl, by decide +kernel, rfl, by decide +kernel, by decide +kernel⟩
def tabX (K : Fr') (i : Nat) : Addr × Addr := He.cT K (((["_law_right"] : List Str).getD i ""), none)
section
variable {P : Program} {w : World} {K : Fr'} {mg : Str → Option Value} {base : Heap}
theorem ok_NotAKind_init (T : Tx K mg) : FnOk P w K mg base CX0 1 (He.ma K (He.ga K "NotAKind") "__init__") (fdOf K (He.ma K (He.ga K "NotAKind") "__init__")) ["self", "given"] (sp_exc K (He.ga K "NotAKind") "given") := by
  have sc := sc_NotAKind_init
  refine T.f_NotAKind_init.ok sc (fun vs H Q E h => ?_) (fun cdv A outer s H vs Q E hr h => ⟨t_exc K "given", PSs.nox ?_, pure_exc rfl h⟩)
  · obtain ⟨_, _, rfl, _⟩ := h
    rfl
  · exact (pss_one (ps_ost (pv 0) (pv 1)))
theorem ok_NoRing_init (T : Tx K mg) : FnOk P w K mg base CX0 1 (He.ma K (He.ga K "NoRing") "__init__") (fdOf K (He.ma K (He.ga K "NoRing") "__init__")) ["self"] sp_excN := by
  have sc := sc_NoRing_init
  refine T.f_NoRing_init.ok sc (fun vs H Q E h => ?_) (fun cdv A outer s H vs Q E hr h => ⟨t_excN, PSs.nox ?_, pure_excN h⟩)
  · obtain ⟨_, rfl, _⟩ := h
    rfl
  · exact (pss_one ps_pass)
theorem sc_is_word : FnScope ["value", "signs", "sign"] ["value", "signs"] (defScope st_is_word) := ⟨rfl, rfl, rfl, by decide +kernel, rfl, by decide +kernel, by decide +kernel⟩
theorem ok_is_word (T : Tx K mg) : FnOk P w K mg base CX0 1 (He.ga K "is_word") (fdOf K (He.ga K "is_word")) ["value", "signs"] (sp_is_word K) := by
  have sc := sc_is_word
  refine T.f_is_word.ok sc (fun vs H Q E h => ?_) (fun cdv A outer s H vs Q E hr h => ⟨t_is_word K, PSs.nox ?_, pure_is_word h⟩)
  · obtain ⟨_, _, rfl, _⟩ := h
    rfl
  · exact (pss_cons (ps_if (PW.pt (pw_or (pt_not (pt_val (pe_callB call_isi (by rfl) T.n_isinstance (by decide +kernel) (pa_cons (pv 0) (pa_cons (pe_bltn (by rfl) T.n_str (by decide +kernel) rfl) pa_nil))))) (pw_or1 (pt_not (pt_chain op_le op_le pe_int (pe_callB call_len (by rfl) T.n_len (by decide +kernel) (pa_cons (pv 0) pa_nil)) (pe_globI (by rfl) T.g_MOST_WORD)))))) (pss_one (ps_ret pe_bl)) pss_nil)
  (pss_one (ps_ret (pe_callB (cr_all rfl) (by rfl) T.n_all (by decide +kernel) (pa_cons (pe_lc (own := [("sign", 2)]) (g := gName 2) (by rfl) sc.nd (pi_str (pv 0)) (blkOk_by (own := [("sign", 2)]) (by kernel_rfl)) (fun _ _ _ _ _ => pg_name (i := 2) sc.nd rfl (by first | exact Or.inl rfl | exact Or.inr rfl)) (fun _ _ _ _ _ => pts_nil) (fun _ _ _ _ _ => (pe_cmpR op_in_sign (pv 2) (pv 1) (by rfl)))) pa_nil)))))
theorem sc_check_signs : FnScope ["signs"] ["signs"] (defScope st_check_signs) := ⟨rfl, rfl, rfl, by decide +kernel, rfl, by decide +kernel, by decide +kernel⟩
theorem ok_check_signs (T : Tx K mg) : FnOk P w K mg base CX0 2 (He.ga K "check_signs") (fdOf K (He.ga K "check_signs")) ["signs"] (sp_check_signs K) := by
  have sc := sc_check_signs
  obtain ⟨ds_is_word, dv_is_word, db_is_word⟩ := T.bd1_is_word
  refine T.f_check_signs.ok sc (fun vs H Q E h => ?_) (fun cdv A outer s H vs Q E hr h => ⟨t_check_signs K, PSs.nox ?_, pure_check_signs h⟩)
  · obtain ⟨_, rfl, _⟩ := h
    rfl
  · exact (pss_one (ps_if (PW.pt (pw_or (pt_not (pt_val (pe_call (ok_is_word T) (hr.mono (by decide)) (by rfl) T.g_is_word T.k_is_word db_is_word dv_is_word pass0 (pa_cons (pv 0) pa_nil)))) (pw_or (pt_cmpR op_gt (pe_callB call_len (by rfl) T.n_len (by decide +kernel) (pa_cons (pv 0) pa_nil)) (pe_globI (by rfl) T.g_MOST_SIGNS) (nomark _)) (pw_or1 (pt_cmpR op_lt (pe_lenSetS rfl (by rfl) T.n_len (by rfl) T.n_set (pv 0)) (pe_callB call_len (by rfl) T.n_len (by decide +kernel) (pa_cons (pv 0) pa_nil)) (nomark _)))))) (pss_one ps_never) pss_nil))
theorem sc_least_turning : FnScope ["text", "place"] ["text"] (defScope st_least_turning) := ⟨rfl, rfl, rfl, by decide +kernel, rfl, by decide +kernel, by decide +kernel⟩
theorem ok_least_turning (T : Tx K mg) : FnOk P w K mg base CX0 1 (He.ga K "least_turning") (fdOf K (He.ga K "least_turning")) ["text"] (sp_least_turning K) := by
  have sc := sc_least_turning
  refine T.f_least_turning.ok sc (fun vs H Q E h => ?_) (fun cdv A outer s H vs Q E hr h => ⟨t_least_turning K, PSs.nox ?_, pure_least_turning h⟩)
  · obtain ⟨_, rfl, _⟩ := h
    rfl
  · exact (pss_one (ps_ret (pe_callB (cr_minS rfl hr.units) (by rfl) T.n_min (by decide +kernel) (pa_cons (pe_lc (own := [("place", 1)]) (g := gName 1) (by rfl) sc.nd (pi_range1 (by rfl) T.n_range (pa_cons (pe_callB call_len (by rfl) T.n_len (by decide +kernel) (pa_cons (pv 0) pa_nil)) pa_nil)) (blkOk_by (own := [("place", 1)]) (by kernel_rfl)) (fun _ _ _ _ _ => pg_name (i := 1) sc.nd rfl (by first | exact Or.inl rfl | exact Or.inr rfl)) (fun _ _ _ _ _ => pts_nil) (fun _ _ _ _ _ => (pe_op op_addS (pe_slice sl_str (pv 0) (po_some (pv 1)) po_none) (pe_slice sl_str (pv 0) po_none (po_some (pv 1)))))) pa_nil))))
theorem sc_Ring_init : FnScope ["self", "text"] ["self", "text"] (defScope st_Ring_init) := ⟨rfl, rfl, rfl, by decide +kernel, rfl, by decide +kernel, by decide +kernel⟩
theorem ok_Ring_init (T : Tx K mg) : FnOk P w K mg base CX0 2 (He.ma K (He.ga K "Ring") "__init__") (fdOf K (He.ma K (He.ga K "Ring") "__init__")) ["self", "text"] (sp_Ring_init K) := by
  have sc := sc_Ring_init
  obtain ⟨ds_is_word, dv_is_word, db_is_word⟩ := T.bd1_is_word
  refine T.f_Ring_init.ok sc (fun vs H Q E h => ?_) (fun cdv A outer s H vs Q E hr h => ⟨t_Ring_init K, PSs.nox ?_, pure_Ring_init T.ringK h⟩)
  · obtain ⟨_, _, _, rfl, _⟩ := h
    rfl
  · exact (pss_cons (ps_if (pt_not (pt_val (pe_call (ok_is_word T) (hr.mono (by decide)) (by rfl) T.g_is_word T.k_is_word db_is_word dv_is_word pass0 (pa_cons (pv 1) pa_nil)))) (pss_one ps_never) pss_nil)
  (pss_one (ps_fld (pv 0) (pe_call (ok_least_turning T) (hr.mono (by decide)) (by rfl) T.g_least_turning T.k_least_turning T.b_least_turning .nil pass0 (pa_cons (pv 1) pa_nil)) rfl)))
theorem sc_Ring_text : FnScope ["self"] ["self"] (defScope st_Ring_text) := ⟨rfl, rfl, rfl, by decide +kernel, rfl, by decide +kernel, by decide +kernel⟩
theorem ok_Ring_text (T : Tx K mg) : FnOk P w K mg base CX0 1 (He5.wf K (He.ga K "Ring") "property" "text") (fdOf K (He5.wf K (He.ga K "Ring") "property" "text")) ["self"] (sp_Ring_text K) := by
  have sc := sc_Ring_text
  refine T.f_Ring_text.ok sc (fun vs H Q E h => ?_) (fun cdv A outer s H vs Q E hr h => ⟨t_Ring_text K, PSs.nox ?_, pure_Ring_text T.ringK h⟩)
  · obtain ⟨_, _, rfl, _⟩ := h
    rfl
  · exact (pss_one (ps_ret (pe_fld (pv 0) rfl)))
theorem sc_check_pairs : FnScope ["signs", "pairs", "index", "pair"] ["signs", "pairs"] (defScope st_check_pairs) := ⟨rfl, rfl, rfl, by decide +kernel, rfl, by decide +kernel, by decide +kernel⟩
theorem ok_check_pairs (T : Tx K mg) : FnOk P w K mg base CX0 2 (He.ga K "check_pairs") (fdOf K (He.ga K "check_pairs")) ["signs", "pairs"] (sp_check_pairs K) := by
  have sc := sc_check_pairs
  refine T.f_check_pairs.ok sc (fun vs H Q E h => ?_) (fun cdv A outer s H vs Q E hr h => ⟨t_check_pairs K, PSs.nox ?_, pure_check_pairs h⟩)
  · obtain ⟨_, _, _, rfl, _⟩ := h
    rfl
  · exact (pss_cons (ps_if (pt_not (pt_val (pe_callB call_isi (by rfl) T.n_isinstance (by decide +kernel) (pa_cons (pv 1) (pa_cons (pe_bltn (by rfl) T.n_tuple (by decide +kernel) rfl) pa_nil))))) (pss_one ps_never) pss_nil)
  (pss_one (ps_for PassesOwn.never rfl (pi_enumT (by rfl) T.n_enumerate (pa_cons (pv 1) pa_nil)) (pg_tup rfl (pgs_cons (pg_name (i := 2) sc.nd rfl (by first | exact Or.inl rfl | exact Or.inr rfl)) (pgs_cons (pg_name (i := 3) sc.nd rfl (by first | exact Or.inl rfl | exact Or.inr rfl)) pgs_nil))) (pss_one (ps_if (PW.pt (pw_or (pt_not (pt_val (pe_call (ok_is_word T) (hr.mono (by decide)) (by rfl) T.g_is_word T.k_is_word T.bf_is_word .nil pass0 (pa_cons (pv 3) (pa_cons (pv 0) pa_nil))))) (pw_or (pt_cmpR op_ne (pe_callB call_len (by rfl) T.n_len (by decide +kernel) (pa_cons (pv 3) pa_nil)) pe_int (nomark _)) (pw_or1 (pt_cmpR op_in_seq (pv 3) (pe_slice sl_tupA (pv 1) po_none (po_some (pv 2))) (by rfl)))))) (pss_one ps_never) pss_nil)))))
theorem sc_check_kind : FnScope ["value"] ["value"] (defScope st_check_kind) := ⟨rfl, rfl, rfl, by decide +kernel, rfl, by decide +kernel, by decide +kernel⟩
theorem ok_check_kind (T : Tx K mg) : FnOk P w K mg base CX0 1 (He.ga K "check_kind") (fdOf K (He.ga K "check_kind")) ["value"] (sp_check_kind K) := by
  have sc := sc_check_kind
  refine T.f_check_kind.ok sc (fun vs H Q E h => ?_) (fun cdv A outer s H vs Q E hr h => ⟨t_check_kind K, PSs.nox ?_, pure_check_kind T.kindK h⟩)
  · obtain ⟨_, rfl, _⟩ := h
    rfl
  · exact (pss_one (ps_if (pt_not (pt_val (pe_callB call_isi (by rfl) T.n_isinstance (by decide +kernel) (pa_cons (pv 0) (pa_cons (pe_glob (by rfl) T.g_Kind (show RelV (.ref (He.ga K "Kind")) (.ref (He.ga K "Kind")) from rfl)) pa_nil))))) (pss_one ps_never) pss_nil))
theorem okr_check_kind (T : Tx K mg) : FnOk P w K mg base (L2N.CX P w) 3 (He.ga K "check_kind") (fdOf K (He.ga K "check_kind")) ["value"] (spr_check_kind K) := by
  have sc := sc_check_kind
  refine T.f_check_kind.ok sc (fun vs H Q E h => ?_) (fun cdv A outer s H vs Q E hr h => ⟨t_check_kind_x K E, ?_, pure_check_kind_x T.own12 T.xk_NotAKind h⟩)
  · obtain ⟨_, rfl, _⟩ := h
    rfl
  · exact (pss_one (ps_if (pt_not (pt_val (pe_callB call_isi (by rfl) T.n_isinstance (by decide +kernel) (pa_cons (pv 0) (pa_cons (pe_glob (by rfl) T.g_Kind (show RelV (.ref (He.ga K "Kind")) (.ref (He.ga K "Kind")) from rfl)) pa_nil))))) (pss_one (ps_rs rfl T.xk_NotAKind (ok_NotAKind_init T) (hr.mono (by decide)) T.b_NotAKind_init (L2N.takes_of rfl rfl rfl rfl) (by rfl) T.g_NotAKind (pa_cons (pv 0) pa_nil))) pss_nil))
theorem okx_check_kind (T : Tx K mg) : FnOk P w K mg base (L2N.CX P w) 3 (He.ga K "check_kind") (fdOf K (He.ga K "check_kind")) ["value"] (spx_check_kind K) := FnOk_or (FnOk_lift ((ok_check_kind T).mono (by decide))) (okr_check_kind T) (by decide)
theorem sc_Kind_init : FnScope ["self", "signs", "pairs", "one", "other"] ["self", "signs", "pairs"] (defScope st_Kind_init) := ⟨rfl, rfl, rfl, by decide +kernel, rfl, by decide +kernel, by decide +kernel⟩
theorem ok_Kind_init (T : Tx K mg) : FnOk P w K mg base CX0 3 (He.ma K (He.ga K "Kind") "__init__") (fdOf K (He.ma K (He.ga K "Kind") "__init__")) ["self", "signs", "pairs"] (sp_Kind_init K) := by
  have sc := sc_Kind_init
  refine T.f_Kind_init.ok sc (fun vs H Q E h => ?_) (fun cdv A outer s H vs Q E hr h => ⟨t_Kind_init K, PSs.nox ?_, pure_Kind_init T.kindK h⟩)
  · obtain ⟨_, _, _, _, rfl, _⟩ := h
    rfl
  · exact (pss_cons (ps_expr (pe_call (ok_check_signs T) (hr.mono (by decide)) (by rfl) T.g_check_signs T.k_check_signs T.b_check_signs .nil pass0 (pa_cons (pv 1) pa_nil)))
  (pss_cons (ps_if (pt_cmpR op_notN (pv 2) pe_non (nomark _)) (pss_one (ps_expr (pe_call (ok_check_pairs T) (hr.mono (by decide)) (by rfl) T.g_check_pairs T.k_check_pairs T.b_check_pairs .nil pass0 (pa_cons (pv 1) (pa_cons (pv 2) pa_nil))))) pss_nil)
  (pss_cons (ps_fld (pv 0) (pe_join pe_str (pe_callB (cr_srt rfl) (by rfl) T.n_sorted (by decide +kernel) (pa_cons (pv 1) pa_nil))) rfl)
  (pss_cons (ps_if (pt_cmpR op_isN (pv 2) pe_non (nomark _)) (pss_one (ps_setLc2 (i := 2) (own := [("one", 3), ("other", 4)]) (vs1 := [4]) (g := gName 3) (g1 := gName 4) (by rfl) sc.nd rfl rfl (sw_true rfl rfl rfl (by decide +kernel)) (pi_str (pv 1)) (blkOk_by (own := [("one", 3), ("other", 4)]) (by kernel_rfl)) (by decide) (fun _ _ _ _ _ => pg_name (i := 3) sc.nd rfl (by first | exact Or.inl rfl | exact Or.inr rfl)) (fun _ _ _ _ _ => pts_nil) (fun _ _ _ _ _ => (pi_str (pv 1))) (fun _ _ _ _ _ => pg_name (i := 4) sc.nd rfl (by first | exact Or.inl rfl | exact Or.inr rfl)) (fun _ _ _ _ _ => pts_nil) (fun _ _ _ _ _ => (pe_op op_addS (pv 3) (pv 4))))) pss_nil)
  (pss_one (ps_fld (pv 0) (pe_callTy call_tuple_of (by rfl) T.n_tuple (by decide +kernel) (pa_cons (pe_callB (cr_srt rfl) (by rfl) T.n_sorted (by decide +kernel) (pa_cons (pv 2) pa_nil)) pa_nil)) rfl))))))
theorem sc_Kind_row : FnScope ["self"] ["self"] (defScope st_Kind_row) := ⟨rfl, rfl, rfl, by decide +kernel, rfl, by decide +kernel, by decide +kernel⟩
theorem ok_Kind_row (T : Tx K mg) : FnOk P w K mg base CX0 1 (He5.wf K (He.ga K "Kind") "property" "row") (fdOf K (He5.wf K (He.ga K "Kind") "property" "row")) ["self"] (sp_Kind_row K) := by
  have sc := sc_Kind_row
  refine T.f_Kind_row.ok sc (fun vs H Q E h => ?_) (fun cdv A outer s H vs Q E hr h => ⟨t_Kind_row K, PSs.nox ?_, pure_Kind_row T.kindK h⟩)
  · obtain ⟨_, rfl, _⟩ := h
    rfl
  · exact (pss_one (ps_ret (pe_tup (pa_cons (pe_fld (pv 0) rfl) (pa_cons (pe_fld (pv 0) rfl) pa_nil)))))
theorem sc_Kind_closes : FnScope ["self", "text", "at"] ["self", "text"] (defScope st_Kind_closes) := ⟨rfl, rfl, rfl, by decide +kernel, rfl, by decide +kernel, by decide +kernel⟩
theorem ok_Kind_closes (T : Tx K mg) : FnOk P w K mg base CX0 1 (He.ma K (He.ga K "Kind") "closes") (fdOf K (He.ma K (He.ga K "Kind") "closes")) ["self", "text"] (sp_Kind_closes K) := by
  have sc := sc_Kind_closes
  refine T.f_Kind_closes.ok sc (fun vs H Q E h => ?_) (fun cdv A outer s H vs Q E hr h => ⟨t_Kind_closes K, PSs.nox ?_, pure_Kind_closes T.kindK h⟩)
  · obtain ⟨_, _, rfl, _⟩ := h
    rfl
  · exact (pss_one (ps_ret (pe_cmpR (op_eqD hr.units) (pe_lc (own := [("at", 2)]) (g := gName 2) (by rfl) sc.nd (pi_range1 (by rfl) T.n_range (pa_cons (pe_callB call_len (by rfl) T.n_len (by decide +kernel) (pa_cons (pv 1) pa_nil)) pa_nil)) (blkOk_by (own := [("at", 2)]) (by kernel_rfl)) (fun _ _ _ _ _ => pg_name (i := 2) sc.nd rfl (by first | exact Or.inl rfl | exact Or.inr rfl)) (fun _ _ _ _ _ => (pts_one (pt_cmpR op_notIn_seq (pe_op op_addS (pe_ix ix_str (pv 1) (pe_op op_sub (pv 2) pe_int) (fun _ _ => rfl)) (pe_ix ix_str (pv 1) (pv 2) (fun _ _ => rfl))) (pe_fld (pv 0) rfl) (by rfl)))) (fun _ _ _ _ _ => (pv 2))) (pe_lst pa_nil) (nomark _))))
theorem sc_Kind_eq : FnScope ["self", "other"] ["self", "other"] (defScope st_Kind_eq) := ⟨rfl, rfl, rfl, by decide +kernel, rfl, by decide +kernel, by decide +kernel⟩
theorem ok_Kind_eq (T : Tx K mg) : FnOk P w K mg base CX0 1 (He.ma K (He.ga K "Kind") "__eq__") (fdOf K (He.ma K (He.ga K "Kind") "__eq__")) ["self", "other"] (sp_Kind_eq K) := by
  have sc := sc_Kind_eq
  refine T.f_Kind_eq.ok sc (fun vs H Q E h => ?_) (fun cdv A outer s H vs Q E hr h => ⟨t_Kind_eq K, PSs.nox ?_, pure_Kind_eq T.kindK h⟩)
  · obtain ⟨_, _, rfl, _⟩ := h
    rfl
  · exact (pss_one (ps_ret (pe_and (pe_callB call_isi (by rfl) T.n_isinstance (by decide +kernel) (pa_cons (pv 1) (pa_cons (pe_glob (by rfl) T.g_Kind (show RelV (.ref (He.ga K "Kind")) (.ref (He.ga K "Kind")) from rfl)) pa_nil))) (pe_and (pe_cmpR op_eq (pe_fld (pv 0) rfl) (pe_fld (pv 1) rfl) (nomark _)) (pe_one (pe_cmpR (op_eqD hr.units) (pe_fld (pv 0) rfl) (pe_fld (pv 1) rfl) (nomark _)))))))
theorem sc_Kind_contains : FnScope ["self", "value"] ["self", "value"] (defScope st_Kind_contains) := ⟨rfl, rfl, rfl, by decide +kernel, rfl, by decide +kernel, by decide +kernel⟩
theorem ok_Kind_contains (T : Tx K mg) : FnOk P w K mg base CX0 3 (He.ma K (He.ga K "Kind") "__contains__") (fdOf K (He.ma K (He.ga K "Kind") "__contains__")) ["self", "value"] (sp_Kind_contains K) := by
  have sc := sc_Kind_contains
  refine T.f_Kind_contains.ok sc (fun vs H Q E h => ?_) (fun cdv A outer s H vs Q E hr h => ⟨t_Kind_contains K, PSs.nox ?_, pure_Kind_contains T.ringK T.kindK h⟩)
  · obtain ⟨_, _, rfl, _⟩ := h
    rfl
  · exact (pss_one (ps_ret (pe_and (pe_callB call_isi (by rfl) T.n_isinstance (by decide +kernel) (pa_cons (pv 1) (pa_cons (pe_glob (by rfl) T.g_Ring (show RelV (.ref (He.ga K "Ring")) (.ref (He.ga K "Ring")) from rfl)) pa_nil))) (pe_one (pe_meth (pv 0) T.c_Kind T.m_Kind_closes (ok_Kind_closes T) (hr.mono (by decide)) T.b_Kind_closes .nil pass0 (pa_cons (pe_prop (pv 1) T.c_Ring T.p_Ring_text (ok_Ring_text T) (hr.mono (by decide)) T.b_Ring_text .nil pass0 rfl) pa_nil))))))
theorem sc_Kind_and : FnScope ["self", "other", "signs", "sign", "pair"] ["self", "other"] (defScope st_Kind_and) := ⟨rfl, rfl, rfl, by decide +kernel, rfl, by decide +kernel, by decide +kernel⟩
theorem ok_Kind_and (T : Tx K mg) : FnOk P w K mg base CX0 5 (He.ma K (He.ga K "Kind") "__and__") (fdOf K (He.ma K (He.ga K "Kind") "__and__")) ["self", "other"] (sp_Kind_and K) := by
  have sc := sc_Kind_and
  refine T.f_Kind_and.ok sc (fun vs H Q E h => ?_) (fun cdv A outer s H vs Q E hr h => ⟨t_Kind_and K, PSs.nox ?_, pure_Kind_and T.kindK h⟩)
  · obtain ⟨_, _, rfl, _⟩ := h
    rfl
  · exact (pss_cons (ps_expr (pe_call (ok_check_kind T) (hr.mono (by decide)) (by rfl) T.g_check_kind T.k_check_kind T.b_check_kind .nil pass0 (pa_cons (pv 1) pa_nil)))
  (pss_cons (ps_set (i := 2) sc.nd rfl (by first | exact Or.inl rfl | exact Or.inr rfl) (pe_join pe_str (pe_lc (own := [("sign", 3)]) (g := gName 3) (by rfl) sc.nd (pi_str (pe_fld (pv 0) rfl)) (blkOk_by (own := [("sign", 3)]) (by kernel_rfl)) (fun _ _ _ _ _ => pg_name (i := 3) sc.nd rfl (by first | exact Or.inl rfl | exact Or.inr rfl)) (fun _ _ _ _ _ => (pts_one (pt_cmpR op_in_sign (pv 3) (pe_fld (pv 1) rfl) (by rfl)))) (fun _ _ _ _ _ => (pv 3)))))
  (pss_cons (ps_if (pt_cmpR op_eq (pv 2) pe_str (nomark _)) (pss_one ps_never) pss_nil)
  (pss_one (ps_ret (pe_make T.mk_Kind (ok_Kind_init T) (hr.mono (by decide)) (by rfl) T.g_Kind T.bf_Kind_init .nil pass0 (pa_cons (pv 2) (pa_cons (pe_callTy call_tuple_of (by rfl) T.n_tuple (by decide +kernel) (pa_cons (pe_lc (own := [("pair", 4)]) (g := gName 4) (by rfl) sc.nd (pi_tup (pe_fld (pv 0) rfl)) (blkOk_by (own := [("pair", 4)]) (by kernel_rfl)) (fun _ _ _ _ _ => pg_name (i := 4) sc.nd rfl (by first | exact Or.inl rfl | exact Or.inr rfl)) (fun _ _ _ _ _ => (pts_one (pt_cmpR op_in_seq (pv 4) (pe_fld (pv 1) rfl) (by rfl)))) (fun _ _ _ _ _ => (pv 4))) pa_nil)) pa_nil))))))))
theorem okr_Kind_and (T : Tx K mg) : FnOk P w K mg base (L2N.CX P w) 5 (He.ma K (He.ga K "Kind") "__and__") (fdOf K (He.ma K (He.ga K "Kind") "__and__")) ["self", "other"] (spr_Kind_and K) := by
  have sc := sc_Kind_and
  refine T.f_Kind_and.ok sc (fun vs H Q E h => ?_) (fun cdv A outer s H vs Q E hr h => ⟨t_Kind_and_x K E, ?_, pure_Kind_and_x T.own12 T.xk_NotAKind T.xk_NoRing h⟩)
  · obtain ⟨_, _, rfl, _⟩ := h
    rfl
  · exact (pss_cons (ps_expr (pe_call (okx_check_kind T) (hr.mono (by decide)) (by rfl) T.g_check_kind T.k_check_kind T.b_check_kind .nil (L2N.passes_call (L2N.takes_of rfl rfl rfl rfl) (fun _ _ _ _ h => h)) (pa_cons (pv 1) pa_nil)))
  (pss_cons (ps_set (i := 2) sc.nd rfl (by first | exact Or.inl rfl | exact Or.inr rfl) (pe_join pe_str (pe_lc (own := [("sign", 3)]) (g := gName 3) (by rfl) sc.nd (pi_str (pe_fld (pv 0) rfl)) (blkOk_by (own := [("sign", 3)]) (by kernel_rfl)) (fun _ _ _ _ _ => pg_name (i := 3) sc.nd rfl (by first | exact Or.inl rfl | exact Or.inr rfl)) (fun _ _ _ _ _ => (pts_one (pt_cmpR op_in_sign (pv 3) (pe_fld (pv 1) rfl) (by rfl)))) (fun _ _ _ _ _ => (pv 3)))))
  (pss_cons (ps_if (pt_cmpR op_eq (pv 2) pe_str (nomark _)) (pss_one (ps_rsN rfl T.xk_NoRing (ok_NoRing_init T) (hr.mono (by decide)) T.b_NoRing_init (L2N.takes_of rfl rfl rfl rfl) (by rfl) T.g_NoRing)) pss_nil)
  pss_never)))
theorem okx_Kind_and (T : Tx K mg) : FnOk P w K mg base (L2N.CX P w) 5 (He.ma K (He.ga K "Kind") "__and__") (fdOf K (He.ma K (He.ga K "Kind") "__and__")) ["self", "other"] (spx_Kind_and K) := FnOk_or (FnOk_lift ((ok_Kind_and T).mono (by decide))) (okr_Kind_and T) (by decide)
theorem sc_law_cell : FnScope ["_law_script", "_law_k", "_law_mixed", "_law_cell_here"] ["_law_script", "_law_k"] (defScope st_law_cell) := ⟨rfl, rfl, rfl, by decide +kernel, rfl, by decide +kernel, by decide +kernel⟩
theorem ok_law_cell (T : Tx K mg) : FnOk P w K mg base CX0 1 (He.ga K "_law_cell") (fdOf K (He.ga K "_law_cell")) ["_law_script", "_law_k"] (sp_law_cell K) := by
  have sc := sc_law_cell
  refine T.f_law_cell.ok sc (fun vs H Q E h => ?_) (fun cdv A outer s H vs Q E hr h => ⟨t_law_cell K, PSs.nox ?_, pure_law_cell h⟩)
  · obtain ⟨_, _, _, rfl, _⟩ := h
    rfl
  · exact (pss_cons (ps_if (pt_cmpR op_lt (pv 1) (pe_callB call_len (by rfl) T.n_len (by decide +kernel) (pa_cons (pv 0) pa_nil)) (nomark _)) (pss_one (ps_ret (pe_ix ix_list (pv 0) (pv 1) (fun _ _ => rfl)))) pss_nil)
  (pss_cons (ps_set (i := 2) sc.nd rfl (by first | exact Or.inl rfl | exact Or.inr rfl) (pe_op op_add pe_int (pe_op op_mul (pe_op op_mul pe_int (pv 1)) (pv 1))))
  (pss_cons (ps_for PassesOwn.never rfl (pi_list (pe_slice sl_list (pv 0) po_none (po_some pe_int))) (pg_name (i := 3) sc.nd rfl (by first | exact Or.inl rfl | exact Or.inr rfl)) (pss_one (ps_set (i := 2) sc.nd rfl (by first | exact Or.inl rfl | exact Or.inr rfl) (pe_op op_mod (pe_callTy call_int1 (by rfl) T.n_int (by decide +kernel) (pa_cons (pe_op op_add (pe_op op_mul (pv 2) pe_int) (pv 3)) pa_nil)) pe_int))))
  (pss_one (ps_ret (pv 2))))))
theorem sc_law_pool : FnScope ["_law_cell_here", "_law_digits"] ["_law_cell_here"] (defScope st_law_pool) := ⟨rfl, rfl, rfl, by decide +kernel, rfl, by decide +kernel, by decide +kernel⟩
theorem ok_law_pool (T : Tx K mg) : FnOk P w K mg base CX0 1 (He.ga K "_law_pool") (fdOf K (He.ga K "_law_pool")) ["_law_cell_here"] (sp_law_pool K) := by
  have sc := sc_law_pool
  refine T.f_law_pool.ok sc (fun vs H Q E h => ?_) (fun cdv A outer s H vs Q E hr h => ⟨t_law_pool K, PSs.nox ?_, pure_law_pool h⟩)
  · obtain ⟨_, rfl, _⟩ := h
    rfl
  · exact (pss_cons (ps_set (i := 1) sc.nd rfl (by first | exact Or.inl rfl | exact Or.inr rfl) (pe_ifExp (PW.pt (pw_or (pt_cmpR op_lt (pv 0) pe_int (nomark _)) (pw_or1 (pt_cmpR op_ge (pv 0) (pe_op op_pow pe_int pe_int) (nomark _))))) (pe_callB call_abs (by rfl) T.n_abs (by decide +kernel) (pa_cons (pv 0) pa_nil)) pe_int))
  (pss_one (ps_ret (pe_lst (pa_cons (pe_op op_mod (pe_callTy call_int1 (by rfl) T.n_int (by decide +kernel) (pa_cons (pv 0) pa_nil)) pe_int) (pa_cons (pv 1) (pa_cons pe_int pa_nil)))))))
theorem sc_law_draw : FnScope ["_law_pool_here", "_law_many", "_law_mixed", "_law_digit"] ["_law_pool_here", "_law_many"] (defScope st_law_draw) := ⟨rfl, rfl, rfl, by decide +kernel, rfl, by decide +kernel, by decide +kernel⟩
theorem ok_law_draw (T : Tx K mg) : FnOk P w K mg base CX0 1 (He.ga K "_law_draw") (fdOf K (He.ga K "_law_draw")) ["_law_pool_here", "_law_many"] (sp_law_draw K) := by
  have sc := sc_law_draw
  refine T.f_law_draw.ok sc (fun vs H Q E h => ?_) (fun cdv A outer s H vs Q E hr h => ⟨t_law_draw K, PSs.nox ?_, pure_law_draw h⟩)
  · obtain ⟨_, _, rfl, _⟩ := h
    rfl
  · exact (pss_cons (ps_asg (pe_op op_add (pe_ix ix_list (pv 0) pe_int (fun _ _ => rfl)) pe_int) (pg_sub (pv 0) pe_int set_list))
  (pss_cons (ps_set (i := 2) sc.nd rfl (by first | exact Or.inl rfl | exact Or.inr rfl) (pe_op op_mod (pe_callTy call_int1 (by rfl) T.n_int (by decide +kernel) (pa_cons (pe_op op_add (pe_op op_add (pe_op op_mul (pe_ix ix_list (pv 0) pe_int (fun _ _ => rfl)) pe_int) (pe_op op_mul (pe_ix ix_list (pv 0) pe_int (fun _ _ => rfl)) pe_int)) pe_int) pa_nil)) pe_int))
  (pss_cons (ps_asg (pe_op op_mod (pe_callTy call_int1 (by rfl) T.n_int (by decide +kernel) (pa_cons (pe_op op_mul (pv 2) (pe_op op_add (pe_op op_fdiv (pv 2) pe_int) pe_int)) pa_nil)) pe_int) (pg_sub (pv 0) pe_int set_list))
  (pss_cons (ps_if (pt_cmpR op_gt (pe_ix ix_list (pv 0) pe_int (fun _ _ => rfl)) pe_int (nomark _)) (pss_cons (ps_asg (pe_callB call_divmodW (by rfl) T.n_divmod (by decide +kernel) (pa_cons (pe_ix ix_list (pv 0) pe_int (fun _ _ => rfl)) (pa_cons (pv 1) pa_nil))) (pg_tup rfl (pgs_cons (pg_sub (pv 0) pe_int set_list) (pgs_cons (pg_name (i := 3) sc.nd rfl (by first | exact Or.inl rfl | exact Or.inr rfl)) pgs_nil))))
  (pss_one (ps_ret (pv 3)))) pss_nil)
  (pss_one (ps_ret (pe_op op_mod (pe_callTy call_int1 (by rfl) T.n_int (by decide +kernel) (pa_cons (pe_op op_fdiv (pe_ix ix_list (pv 0) pe_int (fun _ _ => rfl)) pe_int) pa_nil)) (pv 1))))))))
theorem sc_law_shufU : FnScope ["_law_pool_here", "_law_things", "_law_rest", "_law_found", "_law_turn"] ["_law_pool_here", "_law_things"] (defScope st_law_shufU) := ⟨rfl, rfl, rfl, by decide +kernel, rfl, by decide +kernel, by decide +kernel⟩
theorem ok_law_shufU (T : Tx K mg) : FnOk P w K mg base CX0 2 (He.ga K "_law_shuffled") (fdOf K (He.ga K "_law_shuffled")) ["_law_pool_here", "_law_things"] (sp_law_shufU K) := by
  have sc := sc_law_shufU
  refine T.f_law_shufU.ok sc (fun vs H Q E h => ?_) (fun cdv A outer s H vs Q E hr h => ⟨t_law_shufU K, PSs.nox ?_, pure_law_shufU h⟩)
  · obtain ⟨_, _, rfl, _⟩ := h
    rfl
  · exact (pss_cons (ps_par (by rfl) sc.nd rfl rfl (by decide) rfl rfl (pa_cons (pe_callTy (call_listU rfl) (by rfl) T.n_list (by decide +kernel) (pa_cons (pv 1) pa_nil)) (pa_cons (pe_lst pa_nil) pa_nil)) (by rfl))
  (pss_cons (ps_for PassesOwn.never rfl (pi_range1 (by rfl) T.n_range (pa_cons (pe_callB call_len (by rfl) T.n_len (by decide +kernel) (pa_cons (pv 1) pa_nil)) pa_nil)) (pg_name (i := 4) sc.nd rfl (by first | exact Or.inl rfl | exact Or.inr rfl)) (pss_one (ps_expr (pe_bm PySem.F.plainAttrs_list PySem.F.slot_list_append PySem.F.type_list_append mt_append (pv 3) (pa_cons (pe_bm PySem.F.plainAttrs_list PySem.F.slot_list_pop PySem.F.type_list_pop mt_popAt (pv 2) (pa_cons (pe_call (ok_law_draw T) (hr.mono (by decide)) (by rfl) T.g_law_draw T.k_law_draw T.b_law_draw .nil pass0 (pa_cons (pv 0) (pa_cons (pe_callB call_len (by rfl) T.n_len (by decide +kernel) (pa_cons (pv 2) pa_nil)) pa_nil))) pa_nil)) pa_nil)))))
  (pss_one (ps_ret (pv 3)))))
theorem sc_law_faceR : FnScope ["_law_thing", "_law_part", "_law_key"] ["_law_thing"] (defScope st_law_faceR) := ⟨rfl, rfl, rfl, by decide +kernel, rfl, by decide +kernel, by decide +kernel⟩
theorem ok_law_faceR (T : Tx K mg) : ∀ n : Nat, FnOk P w K mg base CX0 (n + 1) (He.ga K "_law_face") (fdOf K (He.ga K "_law_face")) ["_law_thing"] (sp_law_faceR K n)
  | 0 => T.f_law_faceR.ok sc_law_faceR (fun vs H Q E h => False.elim h) (fun cdv A outer s H vs Q E hr h => False.elim h)
  | n + 1 => by
    have sc := sc_law_faceR
    have ih := ok_law_faceR T n
    refine T.f_law_faceR.ok sc (fun vs H Q E h => ?_) (fun cdv A outer s H vs Q E hr h => ⟨t_law_faceR K n, PSs.nox ?_, pure_law_faceR T.own12 h⟩)
    · obtain ⟨_, rfl, _⟩ := h
      rfl
    · exact (pss_cons (ps_if (pt_val (pe_callB call_isi (by rfl) T.n_isinstance (by decide +kernel) (pa_cons (pv 0) (pa_cons (pe_bltn (by rfl) T.n_tuple (by decide +kernel) rfl) pa_nil)))) (pss_one (ps_ret (pe_op op_cat (pe_lst (pa_cons pe_str pa_nil)) (pe_lc (own := [("_law_part", 1)]) (g := gName 1) (by rfl) sc.nd (pi_tup (pv 0)) (blkOk_by (own := [("_law_part", 1)]) (by kernel_rfl)) (fun _ _ _ _ _ => pg_name (i := 1) sc.nd rfl (by first | exact Or.inl rfl | exact Or.inr rfl)) (fun _ _ _ _ _ => pts_nil) (fun _ _ _ _ _ => (pe_call ih (hr.mono (by omega)) (by rfl) T.g_law_faceR T.k_law_faceR T.b_law_faceR .nil pass0 (pa_cons (pv 1) pa_nil))))))) pss_nil)
  (pss_cons (ps_if (pt_val (pe_callB call_isi (by rfl) T.n_isinstance (by decide +kernel) (pa_cons (pv 0) (pa_cons (pe_bltn (by rfl) T.n_list (by decide +kernel) rfl) pa_nil)))) (pss_one (ps_ret (pe_op op_cat (pe_lst (pa_cons pe_str pa_nil)) (pe_lc (own := [("_law_part", 1)]) (g := gName 1) (by rfl) sc.nd (pi_list (pv 0)) (blkOk_by (own := [("_law_part", 1)]) (by kernel_rfl)) (fun _ _ _ _ _ => pg_name (i := 1) sc.nd rfl (by first | exact Or.inl rfl | exact Or.inr rfl)) (fun _ _ _ _ _ => pts_nil) (fun _ _ _ _ _ => (pe_call ih (hr.mono (by omega)) (by rfl) T.g_law_faceR T.k_law_faceR T.b_law_faceR .nil pass0 (pa_cons (pv 1) pa_nil))))))) pss_nil)
  (pss_cons (ps_if (pt_val (pe_callB call_isi (by rfl) T.n_isinstance (by decide +kernel) (pa_cons (pv 0) (pa_cons (pe_bltn (by rfl) T.n_dict (by decide +kernel) rfl) pa_nil)))) (pss_one (ps_ret (pe_op op_cat (pe_lst (pa_cons pe_str pa_nil)) (pe_lock (pe_lc (own := [("_law_key", 2)]) (g := gName 2) (by rfl) sc.nd (pi_keys (pv 0)) (blkOk_by (own := [("_law_key", 2)]) (by kernel_rfl)) (fun _ _ _ _ _ => pg_name (i := 2) sc.nd rfl (by first | exact Or.inl rfl | exact Or.inr rfl)) (fun _ _ _ _ _ => pts_nil) (fun _ _ _ _ _ => (pe_lst (pa_cons (pe_call ih (hr.mono (by omega)) (by rfl) T.g_law_faceR T.k_law_faceR T.b_law_faceR .nil pass0 (pa_cons (pv 2) pa_nil)) (pa_cons (pe_call ih (hr.mono (by omega)) (by rfl) T.g_law_faceR T.k_law_faceR T.b_law_faceR .nil pass0 (pa_cons (pe_dget hr.u1 (pv 0) (pv 2) (fun _ _ => rfl)) pa_nil)) pa_nil))))))))) pss_nil)
  (pss_one (ps_ret (pe_lst (pa_cons (pe_ifExp (pt_val (pe_callB call_isi (by rfl) T.n_isinstance (by decide +kernel) (pa_cons (pv 0) (pa_cons (pe_bltn (by rfl) T.n_bool (by decide +kernel) rfl) pa_nil)))) pe_str pe_str) (pa_cons (pv 0) pa_nil))))))))
theorem okh_law_faceR (T : Tx K mg) : ∀ n : Nat, L2H.FnH P w K mg base CX0 (n + 1) (He.ga K "_law_face") (fdOf K (He.ga K "_law_face")) ["_law_thing"] (sp_law_faceR K n)
  | 0 => okH_of T.f_law_faceR sc_law_faceR (fun vs H Q E h => False.elim h) (fun cdv A outer s H vs Q E p hot hr h => False.elim h)
  | n + 1 => by
    have sc := sc_law_faceR
    have ih := okh_law_faceR T n
    refine okH_of T.f_law_faceR sc (fun vs H Q E h => ?_) (fun cdv A outer s H vs Q E p hot hr h => ⟨t_law_faceR K n, PSs.nox ?_, pure_law_faceR T.own12 h⟩)
    · obtain ⟨_, rfl, _⟩ := h
      rfl
    · exact (pss_cons (ps_if (pt_val (pe_callB call_isi (by rfl) T.n_isinstance (by decide +kernel) (pa_cons (pv 0) (pa_cons (pe_bltn (by rfl) T.n_tuple (by decide +kernel) rfl) pa_nil)))) (pss_one (ps_ret (pe_op op_cat (pe_lst (pa_cons pe_str pa_nil)) (pe_lcH (p := p) (own := [("_law_part", 1)]) (g := gName 1) hot List.mem_cons_self sc.nd (pi_tupH (pv 0)) (blkOk_by (own := [("_law_part", 1)]) (by kernel_rfl)) (fun _ _ _ _ _ => pg_name (i := 1) sc.nd rfl (by first | exact Or.inl rfl | exact Or.inr rfl)) (fun _ _ _ _ _ => pts_nil) (fun _ _ _ _ _ => (pe_callE ih (L2H.RoomH.mono hr (by omega)) ⟨p, hot, List.mem_cons_self⟩ (by rfl) T.g_law_faceR T.k_law_faceR T.b_law_faceR (pa_cons (pv 1) pa_nil))))))) pss_nil)
  (pss_cons (ps_if (pt_val (pe_callB call_isi (by rfl) T.n_isinstance (by decide +kernel) (pa_cons (pv 0) (pa_cons (pe_bltn (by rfl) T.n_list (by decide +kernel) rfl) pa_nil)))) (pss_one (ps_ret (pe_op op_cat (pe_lst (pa_cons pe_str pa_nil)) (pe_lcH (p := p) (own := [("_law_part", 1)]) (g := gName 1) hot List.mem_cons_self sc.nd (pi_listH (pv 0)) (blkOk_by (own := [("_law_part", 1)]) (by kernel_rfl)) (fun _ _ _ _ _ => pg_name (i := 1) sc.nd rfl (by first | exact Or.inl rfl | exact Or.inr rfl)) (fun _ _ _ _ _ => pts_nil) (fun _ _ _ _ _ => (pe_callE ih (L2H.RoomH.mono hr (by omega)) ⟨p, hot, List.mem_cons_self⟩ (by rfl) T.g_law_faceR T.k_law_faceR T.b_law_faceR (pa_cons (pv 1) pa_nil))))))) pss_nil)
  (pss_cons (ps_if (pt_val (pe_callB call_isi (by rfl) T.n_isinstance (by decide +kernel) (pa_cons (pv 0) (pa_cons (pe_bltn (by rfl) T.n_dict (by decide +kernel) rfl) pa_nil)))) (pss_one (ps_ret (pe_op op_cat (pe_lst (pa_cons pe_str pa_nil)) (pe_lock (pe_lcH (p := p) (own := [("_law_key", 2)]) (g := gName 2) hot List.mem_cons_self sc.nd (pi_keysH (pv 0)) (blkOk_by (own := [("_law_key", 2)]) (by kernel_rfl)) (fun _ _ _ _ _ => pg_name (i := 2) sc.nd rfl (by first | exact Or.inl rfl | exact Or.inr rfl)) (fun _ _ _ _ _ => pts_nil) (fun _ _ _ _ _ => (pe_lst (pa_cons (pe_callE ih (L2H.RoomH.mono hr (by omega)) ⟨p, hot, List.mem_cons_self⟩ (by rfl) T.g_law_faceR T.k_law_faceR T.b_law_faceR (pa_cons (pv 2) pa_nil)) (pa_cons (pe_callE ih (L2H.RoomH.mono hr (by omega)) ⟨p, hot, List.mem_cons_self⟩ (by rfl) T.g_law_faceR T.k_law_faceR T.b_law_faceR (pa_cons (pe_dget (roomH_u1 hr) (pv 0) (pv 2) (fun _ _ => rfl)) pa_nil)) pa_nil))))))))) pss_nil)
  (pss_one (ps_ret (pe_lst (pa_cons (pe_ifExp (pt_val (pe_callB call_isi (by rfl) T.n_isinstance (by decide +kernel) (pa_cons (pv 0) (pa_cons (pe_bltn (by rfl) T.n_bool (by decide +kernel) rfl) pa_nil)))) pe_str pe_str) (pa_cons (pv 0) pa_nil))))))))
theorem sc_law_odd : FnScope ["_law_pool_here", "_law_way"] ["_law_pool_here"] (defScope st_law_odd) := ⟨rfl, rfl, rfl, by decide +kernel, rfl, by decide +kernel, by decide +kernel⟩
theorem ok_law_odd (T : Tx K mg) : FnOk P w K mg base CX0 2 (He.ga K "_law_odd") (fdOf K (He.ga K "_law_odd")) ["_law_pool_here"] (sp_law_odd K) := by
  have sc := sc_law_odd
  refine T.f_law_odd.ok sc (fun vs H Q E h => ?_) (fun cdv A outer s H vs Q E hr h => ⟨t_law_odd K, PSs.nox ?_, pure_law_odd h⟩)
  · obtain ⟨_, rfl, _⟩ := h
    rfl
  · exact (pss_cons (ps_set (i := 1) sc.nd rfl (by first | exact Or.inl rfl | exact Or.inr rfl) (pe_call (ok_law_draw T) (hr.mono (by decide)) (by rfl) T.g_law_draw T.k_law_draw T.b_law_draw .nil pass0 (pa_cons (pv 0) (pa_cons pe_int pa_nil))))
  (pss_cons (ps_if (pt_cmpR op_lt (pv 1) pe_int (nomark _)) (pss_one (ps_ret (pe_ix ix_list (pe_lst (pa_cons pe_non (pa_cons pe_bl (pa_cons pe_bl (pa_cons pe_int (pa_cons pe_int (pa_cons (pe_un un_neg pe_int) (pa_cons pe_int (pa_cons pe_int (pa_cons pe_int (pa_cons (pe_op op_pow pe_int pe_int) (pa_cons (pe_un un_neg (pe_op op_pow pe_int pe_int)) pa_nil)))))))))))) (pv 1) (fun _ _ => rfl)))) pss_nil)
  (pss_cons (ps_if (pt_cmpR op_lt (pv 1) pe_int (nomark _)) (pss_one (ps_ret (pe_ix ix_list (pe_lst (pa_cons pe_str (pa_cons pe_str (pa_cons pe_str (pa_cons pe_str (pa_cons pe_str (pa_cons pe_str (pa_cons pe_str (pa_cons pe_str pa_nil))))))))) (pe_op op_sub (pv 1) pe_int) (fun _ _ => rfl)))) pss_nil)
  (pss_cons (ps_if (pt_cmpR op_lt (pv 1) pe_int (nomark _)) (pss_one (ps_ret (pe_ix ix_list (pe_lst (pa_cons (pe_lst pa_nil) (pa_cons (pe_lst (pa_cons pe_str pa_nil)) (pa_cons pe_dnewK (pa_cons (pe_disp (pps_cons pe_str pe_int pps_nil) rfl rfl (by simp) (by decide)) pa_nil))))) (pe_op op_sub (pv 1) pe_int) (fun _ _ => rfl)))) pss_nil)
  (pss_one (ps_ret (pe_ix ix_list (pe_lst (pa_cons (pe_tup pa_nil) (pa_cons (pe_tup (pa_cons pe_str pa_nil)) (pa_cons (pe_tup (pa_cons pe_int (pa_cons pe_int pa_nil))) (pa_cons (pe_tup (pa_cons (pe_lst pa_nil) (pa_cons (pe_disp (pps_cons pe_str (pe_tup (pa_cons pe_int (pa_cons (pe_lst pa_nil) pa_nil))) pps_nil) rfl rfl (by simp) (by decide)) pa_nil))) pa_nil))))) (pe_op op_sub (pv 1) pe_int) (fun _ _ => rfl))))))))
theorem sc_law_signs : FnScope ["_law_pool_here", "_law_most", "_law_found", "_law_turn", "_law_rest", "_law_mark"] ["_law_pool_here", "_law_most"] (defScope st_law_signs) := ⟨rfl, rfl, rfl, by decide +kernel, rfl, by decide +kernel, by decide +kernel⟩
theorem ok_law_signs (T : Tx K mg) : FnOk P w K mg base CX0 2 (He.ga K "_law_signs") (fdOf K (He.ga K "_law_signs")) ["_law_pool_here", "_law_most"] (sp_law_signs K) := by
  have sc := sc_law_signs
  refine T.f_law_signs.ok sc (fun vs H Q E h => ?_) (fun cdv A outer s H vs Q E hr h => ⟨t_law_signs K, PSs.nox ?_, pure_law_signs h⟩)
  · obtain ⟨_, _, rfl, _⟩ := h
    rfl
  · exact (pss_cons (ps_set (i := 2) sc.nd rfl (by first | exact Or.inl rfl | exact Or.inr rfl) pe_str)
  (pss_cons (ps_for PassesOwn.never rfl (pi_range1 (by rfl) T.n_range (pa_cons (pe_op op_add pe_int (pe_call (ok_law_draw T) (hr.mono (by decide)) (by rfl) T.g_law_draw T.k_law_draw T.b_law_draw .nil pass0 (pa_cons (pv 0) (pa_cons (pv 1) pa_nil)))) pa_nil)) (pg_name (i := 3) sc.nd rfl (by first | exact Or.inl rfl | exact Or.inr rfl)) (pss_cons (ps_setLc (i := 4) (own := [("_law_mark", 5)]) (g := gName 5) (by rfl) sc.nd rfl rfl (sw_true rfl rfl rfl (by decide +kernel)) (pi_str pe_str) (blkOk_by (own := [("_law_mark", 5)]) (by kernel_rfl)) (fun _ _ _ _ _ => pg_name (i := 5) sc.nd rfl (by first | exact Or.inl rfl | exact Or.inr rfl)) (fun _ _ _ _ _ => (pts_one (pt_cmpR op_notIn_sign (pv 5) (pv 2) (by rfl)))) (fun _ _ _ _ _ => (pv 5)))
  (pss_one (ps_set (i := 2) sc.nd rfl (by first | exact Or.inl rfl | exact Or.inr rfl) (pe_op op_addS (pv 2) (pe_ix ix_list (pv 4) (pe_call (ok_law_draw T) (hr.mono (by decide)) (by rfl) T.g_law_draw T.k_law_draw T.b_law_draw .nil pass0 (pa_cons (pv 0) (pa_cons (pe_callB call_len (by rfl) T.n_len (by decide +kernel) (pa_cons (pv 4) pa_nil)) pa_nil))) (fun _ _ => rfl)))))))
  (pss_one (ps_ret (pv 2)))))
theorem sc_law_every : FnScope ["_law_abc", "_law_found", "_law_near", "_law_far"] ["_law_abc"] (defScope st_law_every) := ⟨rfl, rfl, rfl, by decide +kernel, rfl, by decide +kernel, by decide +kernel⟩
theorem ok_law_every (T : Tx K mg) : FnOk P w K mg base CX0 1 (He.ga K "_law_every") (fdOf K (He.ga K "_law_every")) ["_law_abc"] (sp_law_every K) := by
  have sc := sc_law_every
  refine T.f_law_every.ok sc (fun vs H Q E h => ?_) (fun cdv A outer s H vs Q E hr h => ⟨t_law_every K, PSs.nox ?_, pure_law_every h⟩)
  · obtain ⟨_, rfl, _⟩ := h
    rfl
  · exact (pss_cons (ps_set (i := 1) sc.nd rfl (by first | exact Or.inl rfl | exact Or.inr rfl) (pe_lst pa_nil))
  (pss_cons (ps_for PassesOwn.never rfl (pi_str (pv 0)) (pg_name (i := 2) sc.nd rfl (by first | exact Or.inl rfl | exact Or.inr rfl)) (pss_one (ps_set (i := 1) sc.nd rfl (by first | exact Or.inl rfl | exact Or.inr rfl) (pe_op op_cat (pv 1) (pe_lc (own := [("_law_far", 3)]) (g := gName 3) (by rfl) sc.nd (pi_str (pv 0)) (blkOk_by (own := [("_law_far", 3)]) (by kernel_rfl)) (fun _ _ _ _ _ => pg_name (i := 3) sc.nd rfl (by first | exact Or.inl rfl | exact Or.inr rfl)) (fun _ _ _ _ _ => pts_nil) (fun _ _ _ _ _ => (pe_op op_addS (pv 2) (pv 3))))))))
  (pss_one (ps_ret (pv 1)))))
theorem sc_law_couplesU : FnScope ["_law_pool_here", "_law_abc", "_law_every_here", "_law_way", "_law_some", "_law_mate"] ["_law_pool_here", "_law_abc"] (defScope st_law_couplesU) := ⟨rfl, rfl, rfl, by decide +kernel, rfl, by decide +kernel, by decide +kernel⟩
theorem ok_law_couplesU (T : Tx K mg) : FnOk P w K mg base CX0 3 (He.ga K "_law_couples") (fdOf K (He.ga K "_law_couples")) ["_law_pool_here", "_law_abc"] (sp_law_couplesU K) := by
  have sc := sc_law_couplesU
  refine T.f_law_couplesU.ok sc (fun vs H Q E h => ?_) (fun cdv A outer s H vs Q E hr h => ⟨t_law_couplesU K, PSs.nox ?_, pure_law_couplesU h⟩)
  · obtain ⟨_, _, rfl, _⟩ := h
    rfl
  · exact (pss_cons (ps_asg (pe_tup (pa_cons (pe_call (ok_law_every T) (hr.mono (by decide)) (by rfl) T.g_law_every T.k_law_every T.b_law_every .nil pass0 (pa_cons (pv 1) pa_nil)) (pa_cons (pe_call (ok_law_draw T) (hr.mono (by decide)) (by rfl) T.g_law_draw T.k_law_draw T.b_law_draw .nil pass0 (pa_cons (pv 0) (pa_cons pe_int pa_nil))) pa_nil))) (pg_tup rfl (pgs_cons (pg_name (i := 2) sc.nd rfl (by first | exact Or.inl rfl | exact Or.inr rfl)) (pgs_cons (pg_name (i := 3) sc.nd rfl (by first | exact Or.inl rfl | exact Or.inr rfl)) pgs_nil))))
  (pss_cons (ps_if (pt_cmpR op_lt (pv 3) pe_int (nomark _)) (pss_one (ps_ret (pe_ix ix_list (pe_lst (pa_cons (pv 2) (pa_cons (pe_lst pa_nil) pa_nil))) (pv 3) (fun _ _ => rfl)))) pss_nil)
  (pss_cons (ps_setLc (i := 4) (own := [("_law_mate", 5)]) (g := gName 5) (by rfl) sc.nd rfl rfl (sw_true rfl rfl rfl (by decide +kernel)) (pi_list (pv 2)) (blkOk_by (own := [("_law_mate", 5)]) (by kernel_rfl)) (fun _ _ _ _ _ => pg_name (i := 5) sc.nd rfl (by first | exact Or.inl rfl | exact Or.inr rfl)) (fun _ _ _ _ _ => (pts_one (pt_cmpR op_lt (pe_call (ok_law_draw T) (hr.mono (by decide)) (by rfl) T.g_law_draw T.k_law_draw T.b_law_draw .nil pass0 (pa_cons (pv 0) (pa_cons pe_int pa_nil))) (pe_ix ix_list (pe_lst (pa_cons pe_int (pa_cons pe_int pa_nil))) (pe_callTy call_int1 (by rfl) T.n_int (by decide +kernel) (pa_cons (pe_cmpR op_lt (pv 3) pe_int (nomark _)) pa_nil)) (fun _ _ => rfl)) (nomark _)))) (fun _ _ _ _ _ => (pv 5)))
  (pss_one (ps_ret (pe_call (ok_law_shufU T) (hr.mono (by decide)) (by rfl) T.g_law_shufU T.k_law_shufU T.b_law_shufU .nil pass0 (pa_cons (pv 0) (pa_cons (pv 4) pa_nil))))))))
theorem sc_law_heard12 : FnScope ["_law_act", "e", "_law_told"] ["_law_act"] (defScope st_law_heard12) := ⟨rfl, rfl, rfl, by decide +kernel, rfl, by decide +kernel, by decide +kernel⟩
theorem gives_law_heard12 {X : Cx} (T : Tx X.K X.mg) {k : Nat} (hk : 7 ≤ k + 1) (cdv : Value) : GivesN X k ["_law_act", "e", "_law_told"] "_law_heard" (defScope st_law_heard12) (He.ga X.K "_law_heard") cdv (defBody st_law_heard12) "_law_act" (TT_law_heard12 X.K) := by
  intro q f c' s H Q tl hr0 act hc h
  have hr := hr0.mono hk
  have sc := sc_law_heard12
  have act : ∀ (W : WX) (pn : List (Addr × Obj)) (xe : Value → Shared → Prop) (p1 p2 : Pos), L2N.Takes ((cxOf CX0 X.prog X.w X.K X.mg X.base ["_law_act", "e", "_law_told"] "_law_heard" (defScope st_law_heard12) (He.ga X.K "_law_heard") cdv X.A X.stack s H E0).nox.tr pn xe) W → PE ((cxOf CX0 X.prog X.w X.K X.mg X.base ["_law_act", "e", "_law_told"] "_law_heard" (defScope st_law_heard12) (He.ga X.K "_law_heard") cdv X.A X.stack s H E0).nox.tr pn xe) (.Call (.Name "_law_act" p1) [] [] p2) (tAct f c' q tl W) := act
  refine ⟨t_law_heard12 X.K f c' q tl, ?_, pure_law_heard12 T.exm hc h⟩
  exact (pss_cons (ps_tryL (X := (cxOf CX0 X.prog X.w X.K X.mg X.base ["_law_act", "e", "_law_told"] "_law_heard" (defScope st_law_heard12) (He.ga X.K "_law_heard") cdv X.A X.stack s H E0).nox) rfl rfl sc.nd (fun W pn xe tk _ => (pss_one (ps_set (i := 2) sc.nd rfl (by first | exact Or.inl rfl | exact Or.inr rfl) (pe_lst (pa_cons pe_str (pa_cons (act W pn xe _ _ tk) pa_nil)))))) (ClsOk.more (by rfl) (by rfl) ⟨(by rfl), by decide, .inl T.g_NotAKind⟩ (fun a oe cls d pn hz hf => (pss_one (ps_set (i := 2) sc.nd rfl (by first | exact Or.inl rfl | exact Or.inr rfl) (pe_lst (pa_cons pe_str (pa_cons (pe_callE (okh_law_faceR T 6) (L2H.RoomH.mono (roomH_mk hr _) (by decide)) (suite_hot hz hf) (by rfl) T.g_law_faceR T.k_law_faceR T.b_law_faceR (pa_cons (pe_xf T.xk_NotAKind.xf T.xk_NotAKind.no hz.zc hf (pv 1)) pa_nil)) pa_nil)))))) (ClsOk.bare ⟨(by rfl), by decide, .inl T.g_NoRing⟩ (fun a oe cls d pn hz hf => (pss_one (ps_set (i := 2) sc.nd rfl (by first | exact Or.inl rfl | exact Or.inr rfl) (pe_lst (pa_cons pe_str (pa_cons pe_non pa_nil)))))) ClsOk.none)))
  (pss_one (ps_ret (pv 2))))
theorem sc_law_along12 : FnScope ["_law_pool_here", "_law_abc", "_law_some", "_law_word", "_law_turn", "_law_later", "_law_mate"] ["_law_pool_here", "_law_abc", "_law_some"] (defScope st_law_along12) := ⟨rfl, rfl, rfl, by decide +kernel, rfl, by decide +kernel, by decide +kernel⟩
theorem ok_law_along12 (T : Tx K mg) : FnOk P w K mg base CX0 2 (He.ga K "_law_along") (fdOf K (He.ga K "_law_along")) ["_law_pool_here", "_law_abc", "_law_some"] (sp_law_along12 K) := by
  have sc := sc_law_along12
  refine T.f_law_along12.ok sc (fun vs H Q E h => ?_) (fun cdv A outer s H vs Q E hr h => ⟨t_law_along12 K, PSs.nox ?_, pure_law_along12 h⟩)
  · obtain ⟨_, _, _, rfl, _⟩ := h
    rfl
  · exact (pss_cons (ps_set (i := 3) sc.nd rfl (by first | exact Or.inl rfl | exact Or.inr rfl) (pe_ix ix_str (pv 1) (pe_call (ok_law_draw T) (hr.mono (by decide)) (by rfl) T.g_law_draw T.k_law_draw T.b_law_draw .nil pass0 (pa_cons (pv 0) (pa_cons (pe_callB call_len (by rfl) T.n_len (by decide +kernel) (pa_cons (pv 1) pa_nil)) pa_nil))) (fun _ _ => rfl)))
  (pss_cons (ps_for PassesOwn.never rfl (pi_range1 (by rfl) T.n_range (pa_cons (pe_call (ok_law_draw T) (hr.mono (by decide)) (by rfl) T.g_law_draw T.k_law_draw T.b_law_draw .nil pass0 (pa_cons (pv 0) (pa_cons pe_int pa_nil))) pa_nil)) (pg_name (i := 4) sc.nd rfl (by first | exact Or.inl rfl | exact Or.inr rfl)) (pss_cons (ps_setLc (i := 5) (own := [("_law_mate", 6)]) (g := gName 6) (by rfl) sc.nd rfl rfl (sw_true rfl rfl rfl (by decide +kernel)) (pi_list (pv 2)) (blkOk_by (own := [("_law_mate", 6)]) (by kernel_rfl)) (fun _ _ _ _ _ => pg_name (i := 6) sc.nd rfl (by first | exact Or.inl rfl | exact Or.inr rfl)) (fun _ _ _ _ _ => (pts_one (pt_cmpR op_eq (pe_ix ix_str (pv 6) pe_int (fun _ _ => rfl)) (pe_ix ix_str (pv 3) (pe_un un_neg pe_int) (fun _ _ => rfl)) (nomark _)))) (fun _ _ _ _ _ => (pe_ix ix_str (pv 6) pe_int (fun _ _ => rfl))))
  (pss_cons (ps_if (pt_cmpR (op_eqD hr.units) (pv 5) (pe_lst pa_nil) (nomark _)) (pss_one (ps_ret (pv 3))) pss_nil)
  (pss_one (ps_set (i := 3) sc.nd rfl (by first | exact Or.inl rfl | exact Or.inr rfl) (pe_op op_addS (pv 3) (pe_ix ix_list (pv 5) (pe_call (ok_law_draw T) (hr.mono (by decide)) (by rfl) T.g_law_draw T.k_law_draw T.b_law_draw .nil pass0 (pa_cons (pv 0) (pa_cons (pe_callB call_len (by rfl) T.n_len (by decide +kernel) (pa_cons (pv 5) pa_nil)) pa_nil))) (fun _ _ => rfl))))))))
  (pss_one (ps_ret (pv 3)))))
theorem sc_law_both12 : FnScope ["_law_abc", "_law_mate_abc", "_law_some", "_law_mate_some", "_law_common", "_law_mark", "_law_mate"] ["_law_abc", "_law_mate_abc", "_law_some", "_law_mate_some"] (defScope st_law_both12) := ⟨rfl, rfl, rfl, by decide +kernel, rfl, by decide +kernel, by decide +kernel⟩
theorem ok_law_both12 (T : Tx K mg) : FnOk P w K mg base CX0 1 (He.ga K "_law_both") (fdOf K (He.ga K "_law_both")) ["_law_abc", "_law_mate_abc", "_law_some", "_law_mate_some"] (sp_law_both12 K) := by
  have sc := sc_law_both12
  refine T.f_law_both12.ok sc (fun vs H Q E h => ?_) (fun cdv A outer s H vs Q E hr h => ⟨t_law_both12 K, PSs.nox ?_, pure_law_both12 h⟩)
  · obtain ⟨_, _, _, _, rfl, _⟩ := h
    rfl
  · exact (pss_cons (ps_set (i := 4) sc.nd rfl (by first | exact Or.inl rfl | exact Or.inr rfl) (pe_join pe_str (pe_lc (own := [("_law_mark", 5)]) (g := gName 5) (by rfl) sc.nd (pi_list (pe_callB (cr_srt rfl) (by rfl) T.n_sorted (by decide +kernel) (pa_cons (pv 0) pa_nil))) (blkOk_by (own := [("_law_mark", 5)]) (by kernel_rfl)) (fun _ _ _ _ _ => pg_name (i := 5) sc.nd rfl (by first | exact Or.inl rfl | exact Or.inr rfl)) (fun _ _ _ _ _ => (pts_one (pt_cmpR op_in_str (pv 5) (pv 1) (by rfl)))) (fun _ _ _ _ _ => (pv 5)))))
  (pss_one (ps_ret (pe_tup (pa_cons (pv 4) (pa_cons (pe_callTy call_tuple_of (by rfl) T.n_tuple (by decide +kernel) (pa_cons (pe_lc (own := [("_law_mate", 6)]) (g := gName 6) (by rfl) sc.nd (pi_list (pe_callB (cr_srt rfl) (by rfl) T.n_sorted (by decide +kernel) (pa_cons (pv 2) pa_nil))) (blkOk_by (own := [("_law_mate", 6)]) (by kernel_rfl)) (fun _ _ _ _ _ => pg_name (i := 6) sc.nd rfl (by first | exact Or.inl rfl | exact Or.inr rfl)) (fun _ _ _ _ _ => (pts_one (pt_cmpR op_in_seq (pv 6) (pv 3) (by rfl)))) (fun _ _ _ _ _ => (pv 6))) pa_nil)) pa_nil))))))
theorem sc_law_right12 : FnScope ["_law_pool_here", "_law_abc", "_law_mate_abc", "_law_some", "_law_mate_some", "_law_kind", "_law_mate", "_law_line", "_law_near", "_law_far", "_law_turn", "_law_ring", "_law_due", "_law_odd_here", "_law_rows_here"] ["_law_pool_here"] (defScope st_law_right12) := ⟨rfl, rfl, rfl, by decide +kernel, rfl, by decide +kernel, by decide +kernel⟩
theorem ok_law_right12 (T : Tx K mg) (TB : ∀ i : Nat, i < 1 → TabB base mg (tabX K i).1 (tabX K i).2) : FnOk P w K mg base CX0 10 (He.ga K "_law_right") (fdOf K (He.ga K "_law_right")) ["_law_pool_here"] (sp_law_right12 K) := by
  have sc := sc_law_right12
  refine FunD_okC T.f_law_right12 sc (fun vs H Q E h => ?_) (fun A outer s H vs Q E hr h => ⟨t_law_right12 K, PSs.nox ?_, pure_law_right12 T.own12 h⟩)
  · obtain ⟨_, rfl, _⟩ := h
    rfl
  · exact (pss_cons (ps_set (i := 1) sc.nd rfl (by first | exact Or.inl rfl | exact Or.inr rfl) (pe_call (ok_law_signs T) (hr.mono (by decide)) (by rfl) T.g_law_signs T.k_law_signs T.b_law_signs .nil pass0 (pa_cons (pv 0) (pa_cons pe_int pa_nil))))
  (pss_cons (ps_set (i := 2) sc.nd rfl (by first | exact Or.inl rfl | exact Or.inr rfl) (pe_call (ok_law_signs T) (hr.mono (by decide)) (by rfl) T.g_law_signs T.k_law_signs T.b_law_signs .nil pass0 (pa_cons (pv 0) (pa_cons pe_int pa_nil))))
  (pss_cons (ps_if (pt_cmpR op_gt (pe_call (ok_law_draw T) (hr.mono (by decide)) (by rfl) T.g_law_draw T.k_law_draw T.b_law_draw .nil pass0 (pa_cons (pv 0) (pa_cons pe_int pa_nil))) pe_int (nomark _)) (pss_one (ps_set (i := 2) sc.nd rfl (by first | exact Or.inl rfl | exact Or.inr rfl) (pe_slice sl_str (pe_join pe_str (pe_call (ok_law_shufU T) (hr.mono (by decide)) (by rfl) T.g_law_shufU T.k_law_shufU T.b_law_shufU .nil pass0 (pa_cons (pv 0) (pa_cons (pv 1) pa_nil)))) (po_some (pe_call (ok_law_draw T) (hr.mono (by decide)) (by rfl) T.g_law_draw T.k_law_draw T.b_law_draw .nil pass0 (pa_cons (pv 0) (pa_cons (pe_callB call_len (by rfl) T.n_len (by decide +kernel) (pa_cons (pv 1) pa_nil)) pa_nil)))) po_none))) pss_nil)
  (pss_cons (ps_par (by rfl) sc.nd rfl rfl (by decide) rfl rfl (pa_cons (pe_call (ok_law_couplesU T) (hr.mono (by decide)) (by rfl) T.g_law_couplesU T.k_law_couplesU T.b_law_couplesU .nil pass0 (pa_cons (pv 0) (pa_cons (pv 1) pa_nil))) (pa_cons (pe_call (ok_law_couplesU T) (hr.mono (by decide)) (by rfl) T.g_law_couplesU T.k_law_couplesU T.b_law_couplesU .nil pass0 (pa_cons (pv 0) (pa_cons (pv 2) pa_nil))) pa_nil)) (by rfl))
  (pss_cons (ps_asg (pe_tup (pa_cons (pe_make T.mk_Kind (ok_Kind_init T) (hr.mono (by decide)) (by rfl) T.g_Kind T.bf_Kind_init .nil pass0 (pa_cons (pv 1) (pa_cons (pe_callTy call_tuple_of (by rfl) T.n_tuple (by decide +kernel) (pa_cons (pv 3) pa_nil)) pa_nil))) (pa_cons (pe_make T.mk_Kind (ok_Kind_init T) (hr.mono (by decide)) (by rfl) T.g_Kind T.bf_Kind_init .nil pass0 (pa_cons (pv 2) (pa_cons (pe_callTy call_tuple_of (by rfl) T.n_tuple (by decide +kernel) (pa_cons (pv 4) pa_nil)) pa_nil))) pa_nil))) (pg_tup rfl (pgs_cons (pg_name (i := 5) sc.nd rfl (by first | exact Or.inl rfl | exact Or.inr rfl)) (pgs_cons (pg_name (i := 6) sc.nd rfl (by first | exact Or.inl rfl | exact Or.inr rfl)) pgs_nil))))
  (pss_cons (ps_set (i := 7) sc.nd rfl (by first | exact Or.inl rfl | exact Or.inr rfl) (pe_call (ok_law_both12 T) (hr.mono (by decide)) (by rfl) T.g_law_both12 T.k_law_both12 T.b_law_both12 .nil pass0 (pa_cons (pv 1) (pa_cons (pv 2) (pa_cons (pv 3) (pa_cons (pv 4) pa_nil))))))
  (pss_cons (ps_set (i := 8) sc.nd rfl (by first | exact Or.inl rfl | exact Or.inr rfl) (pe_lamN (k := 7) (T := tabs12 K) (by rfl) T.g_law_heard12 T.f_law_heard12 T.b_law_heard12 sc_law_heard12 rfl (Or.inl rfl) (gives_law_heard12 T (by decide)) (TB 0 (by decide)) rfl (.head _) (T.tu_law_right12) (hr.mono (by decide)) (LamX.lamS_by (by kernel_rfl)) rfl (fun _ _ _ _ _ => rfl) (fun A outer s H E f c' hr => (pe_op (op_binO_same (op := .BitAnd) T.s_Kind_and T.sf_Kind (okx_Kind_and T) (hr.mono (by decide)) T.b_Kind_and lam_passes) (pv 5) (pv 6)))))
  (pss_cons (ps_set (i := 9) sc.nd rfl (by first | exact Or.inl rfl | exact Or.inr rfl) (pe_lamN (k := 7) (T := tabs12 K) (by rfl) T.g_law_heard12 T.f_law_heard12 T.b_law_heard12 sc_law_heard12 rfl (Or.inl rfl) (gives_law_heard12 T (by decide)) (TB 0 (by decide)) rfl (.head _) (T.tu_law_right12) (hr.mono (by decide)) (LamX.lamS_by (by kernel_rfl)) rfl (fun _ _ _ _ _ => rfl) (fun A outer s H E f c' hr => (pe_op (op_binO_same (op := .BitAnd) T.s_Kind_and T.sf_Kind (okx_Kind_and T) (hr.mono (by decide)) T.b_Kind_and lam_passes) (pv 6) (pv 5)))))
  (pss_cons (ps_if (pt_cmpR op_eq (pe_ix ix_tup (pv 7) pe_int (fun _ _ => rfl)) pe_str (nomark _)) (pss_one (ps_if (PW.pt (pw_or (pt_cmpR (op_neS hr.units (hr.mono (by decide))) (pv 8) (pe_lst (pa_cons pe_str (pa_cons pe_non pa_nil))) (nomark _)) (pw_or1 (pt_cmpR (op_neS hr.units (hr.mono (by decide))) (pv 9) (pe_lst (pa_cons pe_str (pa_cons pe_non pa_nil))) (nomark _))))) (pss_one (ps_ret pe_bl)) pss_nil)) (pss_one (ps_if (PW.pt (pw_or (pt_cmpR op_ne (pe_ix ix_list (pv 8) pe_int (fun _ _ => rfl)) pe_str (nomark _)) (pw_or (pt_cmpR op_ne (pe_ix ix_list (pv 9) pe_int (fun _ _ => rfl)) pe_str (nomark _)) (pw_or (pt_cmpR (op_neS hr.units (hr.mono (by decide))) (pe_prop (pe_ix ix_list (pv 8) pe_int (fun _ _ => rfl)) T.c_Kind T.p_Kind_row (ok_Kind_row T) (hr.mono (by decide)) T.b_Kind_row .nil pass0 rfl) (pv 7) (nomark _)) (pw_or1 (pt_not (pt_cmpR (op_eqO T.s_Kind_eq (ok_Kind_eq T) (hr.mono (by decide)) T.b_Kind_eq pass0) (pe_ix ix_list (pv 8) pe_int (fun _ _ => rfl)) (pe_ix ix_list (pv 9) pe_int (fun _ _ => rfl)) (nomark _)))))))) (pss_one (ps_ret pe_bl)) pss_nil)))
  (pss_cons (ps_for PassesOwn.never rfl (pi_range1 (by rfl) T.n_range (pa_cons pe_int pa_nil)) (pg_name (i := 10) sc.nd rfl (by first | exact Or.inl rfl | exact Or.inr rfl)) (pss_cons (ps_set (i := 11) sc.nd rfl (by first | exact Or.inl rfl | exact Or.inr rfl) (pe_make T.mk_Ring (ok_Ring_init T) (hr.mono (by decide)) (by rfl) T.g_Ring T.b_Ring_init .nil pass0 (pa_cons (pe_call (ok_law_along12 T) (hr.mono (by decide)) (by rfl) T.g_law_along12 T.k_law_along12 T.b_law_along12 .nil pass0 (pa_cons (pv 0) (pa_cons (pe_ix ix_list (pe_lst (pa_cons (pv 1) (pa_cons (pv 2) pa_nil))) (pe_call (ok_law_draw T) (hr.mono (by decide)) (by rfl) T.g_law_draw T.k_law_draw T.b_law_draw .nil pass0 (pa_cons (pv 0) (pa_cons pe_int pa_nil))) (fun _ _ => rfl)) (pa_cons (pe_op op_cat (pv 3) (pv 4)) pa_nil)))) pa_nil)))
  (pss_cons (ps_set (i := 12) sc.nd rfl (by first | exact Or.inl rfl | exact Or.inr rfl) (pe_and (pe_cmpR (op_inO T.s_Kind_contains (ok_Kind_contains T) (hr.mono (by decide)) T.b_Kind_contains pass0) (pv 11) (pv 5) (by rfl)) (pe_one (pe_cmpR (op_inO T.s_Kind_contains (ok_Kind_contains T) (hr.mono (by decide)) T.b_Kind_contains pass0) (pv 11) (pv 6) (by rfl)))))
  (pss_one (ps_if (pt_cmpR op_ne (pv 12) (pe_and (pe_cmpR op_eq (pe_ix ix_list (pv 8) pe_int (fun _ _ => rfl)) pe_str (nomark _)) (pe_one (pe_cmpR (op_inO T.s_Kind_contains (ok_Kind_contains T) (hr.mono (by decide)) T.b_Kind_contains pass0) (pv 11) (pe_ix ix_list (pv 8) pe_int (fun _ _ => rfl)) (by rfl)))) (nomark _)) (pss_one (ps_ret pe_bl)) pss_nil)))))
  (pss_cons (ps_set (i := 13) sc.nd rfl (by first | exact Or.inl rfl | exact Or.inr rfl) (pe_ix ix_list (pe_lst (pa_cons (pe_call (ok_law_odd T) (hr.mono (by decide)) (by rfl) T.g_law_odd T.k_law_odd T.b_law_odd .nil pass0 (pa_cons (pv 0) pa_nil)) (pa_cons (pv 11) (pa_cons (pe_prop (pv 5) T.c_Kind T.p_Kind_row (ok_Kind_row T) (hr.mono (by decide)) T.b_Kind_row .nil pass0 rfl) (pa_cons (pv 1) pa_nil))))) (pe_call (ok_law_draw T) (hr.mono (by decide)) (by rfl) T.g_law_draw T.k_law_draw T.b_law_draw .nil pass0 (pa_cons (pv 0) (pa_cons pe_int pa_nil))) (fun _ _ => rfl)))
  (pss_cons (ps_if (pt_cmpR (op_neS hr.units (hr.mono (by decide))) (pe_lamN (k := 7) (T := tabs12 K) (by rfl) T.g_law_heard12 T.f_law_heard12 T.b_law_heard12 sc_law_heard12 rfl (Or.inl rfl) (gives_law_heard12 T (by decide)) (TB 0 (by decide)) rfl (.head _) (T.tu_law_right12) (hr.mono (by decide)) (LamX.lamS_by (by kernel_rfl)) rfl (fun _ _ _ _ _ => rfl) (fun A outer s H E f c' hr => (pe_op (op_binVN (op := .BitAnd) T.bta_Kind_and T.ne_Kind_Ring T.nb_Kind_and (okx_Kind_and T) (hr.mono (by decide)) T.b_Kind_and lam_passes) (pv 5) (pv 13)))) (pe_lst (pa_cons pe_str (pa_cons (pe_call (ok_law_faceR T 6) (hr.mono (by decide)) (by rfl) T.g_law_faceR T.k_law_faceR T.b_law_faceR .nil pass0 (pa_cons (pv 13) pa_nil)) pa_nil))) (nomark _)) (pss_one (ps_ret pe_bl)) pss_nil)
  (pss_cons (ps_set (i := 14) sc.nd rfl (by first | exact Or.inl rfl | exact Or.inr rfl) (pe_lst (pa_cons (pe_tup (pa_cons (pe_join pe_str (pe_callB (cr_srt rfl) (by rfl) T.n_sorted (by decide +kernel) (pa_cons (pv 1) pa_nil))) (pa_cons (pe_callTy call_tuple_of (by rfl) T.n_tuple (by decide +kernel) (pa_cons (pe_callB (cr_srt rfl) (by rfl) T.n_sorted (by decide +kernel) (pa_cons (pv 3) pa_nil)) pa_nil)) pa_nil))) (pa_cons (pe_tup (pa_cons (pe_join pe_str (pe_callB (cr_srt rfl) (by rfl) T.n_sorted (by decide +kernel) (pa_cons (pv 2) pa_nil))) (pa_cons (pe_callTy call_tuple_of (by rfl) T.n_tuple (by decide +kernel) (pa_cons (pe_callB (cr_srt rfl) (by rfl) T.n_sorted (by decide +kernel) (pa_cons (pv 4) pa_nil)) pa_nil)) pa_nil))) pa_nil))))
  (pss_one (ps_ret (pe_and (pe_cmpR (op_eqD hr.units) (pe_lst (pa_cons (pe_prop (pv 5) T.c_Kind T.p_Kind_row (ok_Kind_row T) (hr.mono (by decide)) T.b_Kind_row .nil pass0 rfl) (pa_cons (pe_prop (pv 6) T.c_Kind T.p_Kind_row (ok_Kind_row T) (hr.mono (by decide)) T.b_Kind_row .nil pass0 rfl) pa_nil))) (pv 14) (nomark _)) (pe_one (pe_cmpR (op_eqO T.s_Kind_eq (ok_Kind_eq T) (hr.mono (by decide)) T.b_Kind_eq pass0) (pe_op (op_binO_same (op := .BitAnd) T.s_Kind_and T.sf_Kind (ok_Kind_and T) (hr.mono (by decide)) T.b_Kind_and pass0) (pv 5) (pv 5)) (pv 5) (nomark _)))))))))))))))))))
theorem sc_law12 : FnScope ["_law_script", "_law_k"] ["_law_script"] (defScope st_law12) := ⟨rfl, rfl, rfl, by decide +kernel, rfl, by decide +kernel, by decide +kernel⟩
theorem ok_law12 (T : Tx K mg) (TB : ∀ i : Nat, i < 1 → TabB base mg (tabX K i).1 (tabX K i).2) : FnOk P w K mg base CX0 11 (He.ga K "law") (fdOf K (He.ga K "law")) ["_law_script"] (sp_law12 K) := by
  have sc := sc_law12
  refine FunD_okC T.f_law12 sc (fun vs H Q E h => ?_) (fun A outer s H vs Q E hr h => ⟨t_law12 K, PSs.nox ?_, pure_law12 h⟩)
  · obtain ⟨_, _, rfl, _⟩ := h
    rfl
  · exact (pss_one (ps_ret (pe_callB (cr_all rfl) (by rfl) T.n_all (by decide +kernel) (pa_cons (pe_lc (own := [("_law_k", 1)]) (g := gName 1) (by rfl) sc.nd (pi_range1 (by rfl) T.n_range (pa_cons (pe_callB (call_max2 rfl) (by rfl) T.n_max (by decide +kernel) (pa_cons pe_int (pa_cons (pe_callB (call_min2 rfl) (by rfl) T.n_min (by decide +kernel) (pa_cons (pe_callB call_len (by rfl) T.n_len (by decide +kernel) (pa_cons (pv 0) pa_nil)) (pa_cons pe_int pa_nil))) pa_nil))) pa_nil)) (blkOk_by (own := [("_law_k", 1)]) (by kernel_rfl)) (fun _ _ _ _ _ => pg_name (i := 1) sc.nd rfl (by first | exact Or.inl rfl | exact Or.inr rfl)) (fun _ _ _ _ _ => pts_nil) (fun _ _ _ _ _ => (pe_call (ok_law_right12 T TB) (hr.mono (by decide)) (by rfl) T.g_law_right12 T.k_law_right12 T.b_law_right12 .nil pass0 (pa_cons (pe_call (ok_law_pool T) (hr.mono (by decide)) (by rfl) T.g_law_pool T.k_law_pool T.b_law_pool .nil pass0 (pa_cons (pe_call (ok_law_cell T) (hr.mono (by decide)) (by rfl) T.g_law_cell T.k_law_cell T.b_law_cell .nil pass0 (pa_cons (pv 0) (pa_cons (pv 1) pa_nil))) pa_nil)) pa_nil)))) pa_nil))))
end
end WB
namespace WB
open PySem PySem.Spec PyProof.Rows L2 LamX
theorem facts {P : Program} {w : World} {K : Fr'} {h : Heap} {mg : Str → Option Value} {f : Addr} (X : K.In h) (G : h.Ns mainGlobals mg) (hfa : mg ("law" : Str) = some (.ref f)) (c : SaysW fa fn ex K) :
    ∃ fd : FuncData, (∀ (s : Shared) (v : Value), BindsTo s fd ⟨[v], []⟩ [("_law_script", v)]) ∧ ∀ base : Heap, K.In base → base.Ns mainGlobals mg → (∀ p ∈ tf.map (He.cT K), TabB base mg p.1 p.2) → FnOk P w K mg base CX0 11 f fd ["_law_script"] (sp_law12 K) := by
  have T : Tx K mg := ⟨c, h, X, G⟩
  have e := hfa.symm.trans T.g_law12
  cases e
  have b := FunD.bindsA (ps := ["_law_script"]) (kws := d_law12.kws K) T.f_law12 fun _ _ _ _ _ _ us hl => match us, hl with | [_], _ => rfl
  refine ⟨_, fun s v => b s [v] rfl, fun base _ _ tb => ok_law12 T fun i hi => ?_⟩
  refine tb _ (List.mem_map.mpr ⟨tf[i]'hi, List.getElem_mem _, ?_⟩)
  match i, hi with
  | 0, _ => rfl
end WB
open PySem PySem.W PySem.Calls PyProof.Rows in
set_option maxRecDepth 100000 in
set_option maxHeartbeats 0 in
theorem PySem.Challenge.cw_wherebegun_k12_kinds_met_holds : PySem.Challenge.rw_wherebegun_k12_kinds_met.Holds := by
  w_on; o_law
  refine HandSHeadRun.head_any (r := OpenLaw.row PySem.Challenge.rw_wherebegun_k12_kinds_met) (q := view (OpenLaw.row PySem.Challenge.rw_wherebegun_k12_kinds_met).prog [45]) (H := WB.hk) (ob := WB.ob) (M := 20000) (loose := WB.looseN) (d := HandSHeadRun.topDef (OpenLaw.row PySem.Challenge.rw_wherebegun_k12_kinds_met).prog 45) (kwd := []) WB.ob_eq
    (by kernel_rfl) (fun s => by kernel_rfl) WB.runH (by kernel_rfl) (by kernel_rfl) (by kernel_rfl) (by rfl) (by first | assumption | decide +kernel) (by decide +kernel) ⟨rfl, rfl, rfl, rfl, rfl, by decide +kernel⟩ ?hw ?hc
  case hw => w_witness2
  case hc =>
    refine WB.walk_ofTE (l := PySem.Challenge.rw_wherebegun_k12_kinds_met) (n := 63) (k := 11) (x := "_law_script") (CX := L2.CX0) rfl (by decide) (by kernel_rfl) ⟨rfl, by decide, by decide⟩ ?F (fun _ _ _ _ z => z)
    intro w mg fa h Y G hmg0
    obtain ⟨K, KX, c⟩ := Y
    have hmg : mg ("law" : PySem.Str) = some (.ref fa) := by
      have e : (HandSHeadRun.topDef (OpenLaw.row PySem.Challenge.rw_wherebegun_k12_kinds_met).prog 45).name = ("law" : PySem.Str) := by kernel_rfl
      rw [← e]
      exact hmg0
    obtain ⟨fd, hb, hF⟩ := WB.facts (P := (PySem.Challenge.rw_wherebegun_k12_kinds_met).prog) (w := w) KX G hmg c.c
    refine ⟨K, KX, fd, WB.tf.map (He.cT K), WB.sp_law12 K, ?_, ?_, ?_, hb, fun H a ns hl _ hT hS => ⟨a, ns, rfl, hS, hl, WB.tabs_ofL (l := WB.tabL) hT, fun _ => rfl⟩, hF⟩
    · intro p hp
      obtain ⟨q, hq, rfl⟩ := List.mem_map.mp hp
      exact c.empty q hq
    · intro p hp
      obtain ⟨q, hq, rfl⟩ := List.mem_map.mp hp
      exact c.out q hq
    · intro p hp
      obtain ⟨q, hq, rfl⟩ := List.mem_map.mp hp
      exact PySem.W.codeHd_of_K KX (c.hd q hq)
