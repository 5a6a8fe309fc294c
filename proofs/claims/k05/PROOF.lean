import PyProof.Rows.All
import Wide.All
import OpenK.AllK
import Wide.FinOn
import HandS.ForMost
import HandS.Property
import HandS.IsInst
import HandS.Defaults
import HandS.MakeKw
import HandS.WideBits
import HandS.TupAny
import HandS.Walk
import HandS.Deep
import HandS.OwnEq
import HandS.HeadHook4
import KE.KOpsOwn
import KE.KCallOwn
import HandS.Style
import HandS.TryOnly
import HandS.RaiseMore
import KE.DatumOrd
import PyProof.Rows.StrRev
import HandS.Strs
import PyProof.ListStr
import HandS.Conv
import HandS.More
import PyProof.StrLawsIn
import HandS.ClsMeth
import HandS.HeadNt
import HandS.Head0
import HandS.Head1
import HandS.Head2
import HandS.HeadEnd
import HandS.Star
import HandS.TryMany
import HandS.ExcCtx
import HandS.ExcInit
import HandS.ExcField
import HandS.Hot
import HandS.HotCalls
import HandS.Lambda
import HandS.EndTab
import HandS.NestedK
import KE.KIsAll
import HandS.SetTxtIn
import PyProof.Rows.Range3
import PyProof.CollectStr
import PyProof.TupleOfSeq
import KE.GoesMore
import HandS.DictComp
import HandS.MakeKwOnly
import HandS.Wide
import PyProof.TupleOfStr
import PySem.Challenge.RW_wherebegun_k05_rings_refused
set_option Elab.async false
set_option linter.all false
set_option maxRecDepth 100000
set_option maxHeartbeats 4000000
namespace WB
open PySem PySem.Spec PyProof.Rows L2
section
variable {X : Cx} {CX : CXT} {k : Nat} {f C : Addr} {fd : FuncData} {ps : List Str} {sp : Sp} {dvs : List V} {ds : List Value} {E : XK}
theorem run_sub {A : Around} {pins : List (Addr × Obj)} {σ : L2.St} {H : Hp} {s : Shared} {Q : VK} {us : List Value} {vs : List V} (F : FnOk X.prog X.w X.K X.mg X.base CX k f fd ps sp) (sb : Sub X k A) (hb : Binds X.K fd ps ds) (hd : Vals dvs ds) (hx : Passes CX X E)
    (I : Inv X pins σ H s) (r : Vals vs us) (h : sp (vs ++ dvs) H Q E) : wpAny (model X.prog X.w) A (call (.ref f) us) (EP X pins σ Q) X.xe s := by
  have r2 : Vals (vs ++ dvs) (us ++ ds) := r.append hd
  have hl : (us ++ ds).length = ps.length := by rw [← r2.length]; exact F.len _ _ _ _ h
  have e0 : Env0 X.prog X.w X.K X.mg X.base A X.stack s H := by
    have e := I.env0
    exact ⟨by rw [sb.fr]; exact e.frames, e.mod, e.bs, e.bsz, e.funs, e.frf, e.hok, e.bare⟩
  refine wpAny_call (codeAny_mono (F.run A X.stack s H ⟨us, []⟩ (us ++ ds) (vs ++ dvs) Q E sb.room e0 (hb s us I.kIn hl) r2 h) fun r s' hq => ?_)
  cases r with
  | error e => exact hx pins σ H s e s' I hq
  | ok fl =>
    cases fl with
    | ret u => exact I.after hq
    | next => exact False.elim hq
    | brk => exact False.elim hq
    | cont => exact False.elim hq
theorem inst_at {pins : List (Addr × Obj)} {σ : L2.St} {H : Hp} {s : Shared} {a C dx : Addr} {fs : List (Str × V)} (I : Inv X pins σ H s) (e : H a = some (.ins C dx fs)) : ∃ ox od, PySem.W.InstAt s.heap a ox C od := by
  obtain ⟨mA, J, _⟩ := ins_get I.hok e
  obtain ⟨od, J, _⟩ := J.look
  exact ⟨_, _, J⟩
structure Spec1 (K : PySem.W.Frag) (C : Addr) (m : Str) (f : Addr) : Prop where
  at_ : PySem.W.findIn K (.ref C) m = some (some (.ref f))
  fn : PySem.W.isFn K (.ref f) = true
def rLenO (C : Addr) (sp : Sp) (E : XK) : List V → Hp → VK → Prop := fun xs H Q => ∃ a dx fs, xs = [.ref a] ∧ H a = some (.ins C dx fs) ∧ sp [.ref a] H (fun z H' => ∃ n : Nat, z = .int n ∧ n < 2 ^ 63 ∧ Q z H') E
theorem call_lenO (S : Spec1 X.K C "__len__" f) (F : FnOk X.prog X.w X.K X.mg X.base CX k f fd ps sp) (hr : Room (k + 1) X.A) (hb : Binds X.K fd ps []) (hx : Passes CX X E) : CallR X (.builtin "len") (rLenO C sp E) := by
  intro pins s σ H xs us Q I r h
  obtain ⟨a, dx, fs, rfl, ha, h⟩ := h
  obtain ⟨u, rfl, ru⟩ := vals1 r
  cases ru
  obtain ⟨ox, od, J⟩ := inst_at I ha
  obtain ⟨m, hF⟩ := I.fr
  refine PySem.W.len_K hF I.ok.mod.kin J S.at_ S.fn (wpAny_mono (run_sub (dvs := []) (vs := [.ref a]) F ⟨hr.in1, rfl⟩ hb .nil hx I (.cons rfl .nil) h) (fun v s' hv => ?_) fun _ _ z => z)
  obtain ⟨z, H', I', rz, n, rfl, hn, q⟩ := hv
  obtain ⟨t, rfl⟩ := rz
  exact ⟨⟨by omega, by omega⟩, .int n, H', I'.tok _, ⟨_, rfl⟩, q⟩
def rStrO (C : Addr) (sp : Sp) (E : XK) : List V → Hp → VK → Prop := fun xs H Q => ∃ a dx fs, xs = [.ref a] ∧ H a = some (.ins C dx fs) ∧ sp [.ref a] H (fun z H' => ∃ y, z = .str y ∧ Q z H') E
def rIxO (C : Addr) (sp : Sp) (E : XK) : R2 := fun x y H Q => ∃ a dx fs, x = .ref a ∧ H a = some (.ins C dx fs) ∧ sp [x, y] H Q E
def rEqO (C : Addr) (sp : Sp) (E : XK) : R2 := fun x y H Q => ∃ a dx fs b dy gs, x = .ref a ∧ y = .ref b ∧ H a = some (.ins C dx fs) ∧ H b = some (.ins C dy gs) ∧ sp [x, y] H (fun z H' => ∃ c, z = .bl c ∧ Q z H') E
theorem ix_own (S : Spec1 X.K C "__getitem__" f) (hfn : PySem.W.fnIn X.K f = true) (F : FnOk X.prog X.w X.K X.mg X.base CX k f fd ps sp) (hr : Room (k + 1) X.A) (hb : Binds X.K fd ps []) (hx : Passes CX X E)
    {a b : Expr} {ta tb : TE} {pos : Pos} (ha : PE X a ta) (hi : PE X b tb) (hs : ∀ o i, subscripted b true o i = runValue (.builtin "lifetime.subscript" ⟨[o, i], []⟩)) : PE X (.Subscript a b pos) (tOp (rIxO C sp E) ta tb) := by
  refine ⟨fun pins s σ H Q I h => ?_⟩
  refine Subscript_ (binT ha hi I h fun v u s2 x y H2 I2 rx ry q => ?_)
  obtain ⟨p, dx, fs, rfl, hp, q⟩ := q
  cases rx
  obtain ⟨ox, od, J⟩ := inst_at I2 hp
  obtain ⟨m, hF⟩ := I2.fr
  exact PySem.W.sub_K hF I2.ok.mod.kin J S.at_ hfn S.fn (run_sub (dvs := []) (vs := [.ref p, y]) F ⟨hr.in1, rfl⟩ hb .nil hx I2 (.cons rfl (.cons ry .nil)) q) (hs _ _)
end
end WB
namespace WB
open PySem PySem.Spec PyProof.Rows L2
def S (l : List Nat) : Str := ⟨l.toArray⟩
theorem S_cps (l : List Nat) : (S l).cps.toList = l := by simp [S]
theorem S_len (l : List Nat) : (S l).length = l.length := by simp [S, Str.length]
theorem S_app (a b : List Nat) : S a ++ S b = S (a ++ b) := by
  show Str.mk (a.toArray ++ b.toArray) = S (a ++ b)
  simp [S]
theorem S_inj {a b : List Nat} (h : S a = S b) : a = b := by
  have := congrArg (fun z : Str => z.cps.toList) h
  simpa [S] using this
theorem S_of (z : Str) : z = S z.cps.toList := by
  cases z
  simp [S]
def rAddI : R2 := rI0 fun i j => .int (i + j)
def rSubI : R2 := rI0 fun i j => .int (i - j)
def rMulI : R2 := rI CMul fun i j => .int (i * j)
def rDivI : R2 := rI CDiv fun i j => .int (i / j)
def rModI : R2 := rI (fun _ j => 0 < j) fun i j => .int (i % j)
def rPowI : R2 := rI CPow fun i j => .int (i ^ j.toNat)
def rLtI : R2 := rI0 fun i j => .bl (decide (i < j))
def rLeI : R2 := rI0 fun i j => .bl (decide (i ≤ j))
def rGtI : R2 := rI0 fun i j => .bl (decide (j < i))
def rGeI : R2 := rI0 fun i j => .bl (decide (j ≤ i))
def rNegI : V → Hp → VK → Prop := rU fun i => .int (-i)
def rLenV (K : PySem.W.Frag) : List V → Hp → VK → Prop := fun xs H Q => ∃ x n, xs = [x] ∧ LenV K x H n ∧ Q (.int n) H
def rAbsI : List V → Hp → VK → Prop := fun xs H Q => ∃ i, xs = [.int i] ∧ Q (.int (if i < 0 then -i else i)) H
def rIntI : List V → Hp → VK → Prop := fun xs H Q => (∃ i, xs = [.int i] ∧ Q (.int i) H) ∨ ∃ k, xs = [.bl k] ∧ Q (.int (if k then 1 else 0)) H
def rMin2 : List V → Hp → VK → Prop := fun xs H Q => ∃ i j, xs = [.int i, .int j] ∧ Q (.int (if j < i then j else i)) H
def rMax2 : List V → Hp → VK → Prop := fun xs H Q => ∃ i j, xs = [.int i, .int j] ∧ Q (.int (if j > i then j else i)) H
def rDivmod : List V → Hp → VK → Prop := fun xs H Q => ∃ i j, xs = [.int i, .int j] ∧ CDivP i j ∧ ∀ p, H p = none → Q (.ref p) (upd H p (.tup [.int (i / j), .int (i % j)]))
def rInSg : R2 := fun x y H Q => ∃ (c : Nat) (z : Str), x = .str ⟨#[c]⟩ ∧ y = .str z ∧ Q (.bl (decide (c ∈ z.cps.toList))) H
def rNotInSg : R2 := fun x y H Q => ∃ (c : Nat) (z : Str), x = .str ⟨#[c]⟩ ∧ y = .str z ∧ Q (.bl (!decide (c ∈ z.cps.toList))) H
def rIsN1 : R2 := fun x y H Q => y = .non ∧ Q (.bl (decide (x = .non))) H
def rNotN1 : R2 := fun x y H Q => y = .non ∧ Q (.bl (!decide (x = .non))) H
def rJoin (K : PySem.W.Frag) : V → List V → Hp → VK → Prop := fun x xs H Q => ∃ a p, ∃ ys : List Str, x = .str a ∧ xs = [.ref p] ∧ (SqL K H p (ys.map V.str) ∨ SqT K H p (ys.map V.str)) ∧
      (ys.map (·.length)).sum + ys.length * a.length ≤ 16777216 ∧ Q (.str (Txt.join a ys)) H
section
variable {X : Cx}
theorem pe_globI {x : Str} {i : Int} {pos : Pos} (hg : Gl X x) (hm : ∃ t, X.mg x = some (.int i t)) (hd : (x == ("__debug__" : Str)) = false := by decide) : PE X (.Name x pos) (tC (.int i)) := by
  obtain ⟨t, h⟩ := hm
  exact pe_glob hg h ⟨t, rfl⟩ hd
def rAddS : R2 := fun x y H Q => ∃ a b, x = .str (S a) ∧ y = .str (S b) ∧ a.length + b.length ≤ sizeLine ∧ Q (.str (S (a ++ b))) H
theorem op_addS : OpR X (binaryOp .Add) rAddS := by
  intro pins s σ H x y v u Q I rx ry h
  obtain ⟨a, b, rfl, rfl, hl, q⟩ := h
  exact op_add_str pins s σ H _ _ v u Q I rx ry ⟨_, _, rfl, rfl, by rw [S_len, S_len]; exact hl, by rw [S_app]; exact q⟩
def rMulS : R2 := fun x y H Q => ∃ (a : List Nat) (k : Nat), x = .str (S a) ∧ y = .int k ∧ k ≤ 100000 ∧ a.length * k ≤ 100000 ∧ Q (.str (S (List.replicate k a).flatten)) H
theorem fold_app (a : Array Nat) : ∀ (k : Nat) (b : Array Nat), ((List.replicate k a).foldl (· ++ ·) b).toList = b.toList ++ (List.replicate k a.toList).flatten
  | 0, b => by simp
  | k + 1, b => by
    rw [List.replicate_succ, List.foldl_cons, fold_app a k, List.replicate_succ]
    simp
theorem op_mulS : OpR X (binaryOp .Mult) rMulS := by
  intro pins s σ H x y v u Q I rx ry h
  obtain ⟨a, k, rfl, rfl, hk, hl, q⟩ := h
  obtain ⟨t, rfl⟩ := rx
  obtain ⟨t', rfl⟩ := ry
  have b1 : decide ((k : Int) < -(2 ^ 63 : Int)) = false := decide_eq_false (by omega)
  have b2 : decide ((k : Int) ≥ 2 ^ 63) = false := decide_eq_false (by omega)
  refine PySem.P.mul_str (by rw [b1, b2]; rfl) (fun h1 _ => ?_) (fun h1 _ => ?_) ?_
  · have h2 : (1 : Int) ≤ k := by omega
    have : ((S a).length : Int) * k ≤ 2 ^ 63 - 1 := by
      rw [S_len]
      have h4 : ((a.length * k : Nat) : Int) ≤ ((100000 : Nat) : Int) := Int.ofNat_le.mpr hl
      rw [Int.natCast_mul] at h4
      generalize (a.length : Int) * (k : Int) = z at *
      omega
    intro hc
    have h3 : ((S a).length : Int) ≤ (2 ^ 63 - 1) / (k : Int) := (Int.le_ediv_iff_mul_le (by omega)).mpr this
    omega
  · show PySem.Builtin.Str.tooLong ((S a).length * (k : Int).toNat) = false
    rw [S_len, Int.toNat_natCast]
    have : a.length * k ≤ sizeLine := Nat.le_trans hl (by decide)
    unfold PySem.Builtin.Str.tooLong
    simpa using this
  · by_cases h0 : (k : Int) < 1
    · have e : k = 0 := by omega
      subst e
      rw [if_pos h0]
      exact ⟨by decide, .str Str.empty, H, I.tok _, ⟨_, rfl⟩, q⟩
    · rw [if_neg h0]
      by_cases h1 : ((k : Int) == 1 || (S a).length == 0) = true
      · rw [if_pos h1]
        have e : (List.replicate k a).flatten = a := by
          rw [Bool.or_eq_true] at h1
          rcases h1 with h1 | h1
          · have e : k = 1 := by have := beq_iff_eq.mp h1; omega
            subst e
            simp
          · have e : a = [] := by
              have := beq_iff_eq.mp h1
              rw [S_len] at this
              exact List.length_eq_zero_iff.mp this
            subst e
            simp
        rw [e] at q
        exact ⟨.str (S a), H, I, ⟨_, rfl⟩, q⟩
      · rw [if_neg h1]
        have e : (⟨(List.replicate (k : Int).toNat (S a).cps).foldl (· ++ ·) #[]⟩ : Str) = S (List.replicate k a).flatten := by
          rw [S_of ⟨_⟩, fold_app]
          simp [S_cps]
        rw [e]
        refine ⟨?_, .str _, H, I.tok _, ⟨_, rfl⟩, q⟩
        rw [S_len]
        have : (List.replicate k a).flatten.length = a.length * k := by simp [Nat.mul_comm]
        rw [this]
        exact Nat.le_trans hl (by decide)
end
end WB
namespace WB
open PySem PySem.Spec PyProof.Rows L2
def minL (x : List Nat) (xs : List (List Nat)) : List Nat := xs.foldl (fun a y => if decide (y < a) = true then y else a) x
abbrev vS (l : List Nat) : V := .str (S l)
def rMinS (K : PySem.W.Frag) : List V → Hp → VK → Prop := fun vs H Q => ∃ (a : Addr) (x : List Nat) (xs : List (List Nat)), vs = [.ref a] ∧ SqL K H a ((x :: xs).map vS) ∧ Q (vS (minL x xs)) H
section
variable {X : Cx}
theorem minOf_S : ∀ (xs : List (List Nat)) (x : List Nat), PySem.W.minOf (S x) (xs.map S) = S (minL x xs)
  | [], x => rfl
  | y :: ys, x => by
    show PySem.W.minOf (if PySem.W.DatumOrd.lt (S y) (S x) = true then S y else S x) (ys.map S) = S (minL (if decide (y < x) = true then y else x) ys)
    have e : PySem.W.DatumOrd.lt (S y) (S x) = decide (y < x) := by
      show decide ((S y).cps.toList < (S x).cps.toList) = decide (y < x)
      rw [S_cps, S_cps]
    rw [e]
    by_cases h : decide (y < x) = true
    · rw [if_pos h, if_pos h]; exact minOf_S ys y
    · rw [if_neg h, if_neg h]; exact minOf_S ys x
theorem cr_minS (hc : X.calm = true) (hu : X.A.units + 64 < cLine) : CallR X (.builtin "min") (rMinS X.K) := by
  intro pins s σ H vs us Q I r h
  obtain ⟨a, x, xs, rfl, hs, q⟩ := h
  obtain ⟨its, rv, hl, _⟩ := I.list hs
  rw [Vals.ref1 r]
  have hst : StrsAre its ((x :: xs).map S) := by
    have e : ((x :: xs).map vS) = (((x :: xs).map S).map V.str) := by rw [List.map_map]; rfl
    rw [e] at rv
    exact strsAre_of rv
  refine PySem.W.min_list_datum (α := Str) (x := S x) (xs := xs.map S) (I.ok.hd hc) hl.isList (by
    have := PySem.W.HoldAll.of_strs (h := s.heap) hst
    simpa using this) ?_ fun i v h' tk hv hh hk => ?_
  · show X.A.units + 1 + PySem.W.Datum.depth Str < cLine
    have : PySem.W.Datum.depth Str = 0 := rfl
    omega
  · rw [minOf_S] at hh
    obtain ⟨bs, rd⟩ := hh
    have rd : Reads h' v (.str (S (minL x xs))) bs := rd
    cases rd
    exact ⟨.str _, H, I.kept hk, ⟨_, rfl⟩, q⟩
def tRevS (te : TE) : TE := fun σ H Q => te σ H fun x H1 => ∃ l : List Nat, x = vS l ∧ l.length ≤ sizeLine ∧ Q (vS l.reverse) H1
variable {CX : CXT} {k : Nat} {f C : Addr} {fd : FuncData} {ps : List Str} {sp : Sp} {E : XK}
def rBinO (C : Addr) (sp : Sp) (E : XK) : R2 := fun x y H Q => ∃ a dx fs, x = .ref a ∧ H a = some (.ins C dx fs) ∧ (∃ b dy gs, y = .ref b ∧ H b = some (.ins C dy gs)) ∧ sp [x, y] H Q E
def rBinI (C : Addr) (sp : Sp) (E : XK) : R2 := fun x y H Q => ∃ a dx fs, x = .ref a ∧ H a = some (.ins C dx fs) ∧ (∃ i, y = .int i) ∧ sp [x, y] H Q E
theorem cmpBack {pins : List (Addr × Obj)} {σ : L2.St} {Q : VK} {v : Value} {s' : Shared} (h : EP X pins σ Q v s') : PySem.W.CmpBack (EP X pins σ Q) v s' := by
  obtain ⟨z, H', I', rz, q⟩ := h
  cases z with
  | non => cases rz; exact ⟨.non, H', I', rfl, q⟩
  | bl b => cases rz; exact ⟨.bl b, H', I', rfl, q⟩
  | int i => obtain ⟨t, rfl⟩ := rz; exact ⟨.int i, H', I', ⟨t, rfl⟩, q⟩
  | str i => obtain ⟨t, rfl⟩ := rz; exact ⟨.str i, H', I', ⟨t, rfl⟩, q⟩
  | byt i => obtain ⟨t, rfl⟩ := rz; exact ⟨.byt i, H', I', ⟨t, rfl⟩, q⟩
  | flt i => obtain ⟨t, rfl⟩ := rz; exact ⟨.flt i, H', I', ⟨t, rfl⟩, q⟩
  | ref a => cases rz; exact ⟨.ref a, H', I', rfl, q⟩
  | ty n => cases rz; exact ⟨.ty n, H', I', rfl, q⟩
theorem op_binO_same {op : Operator} (S1 : Spec1 X.K C (PySem.dunder op.info.2) f) (sf : PySem.W.selfFirst X.K C = true) (F : FnOk X.prog X.w X.K X.mg X.base CX k f fd ps sp) (hr : Room k X.A) (hb : Binds X.K fd ps []) (hx : Passes CX X E) : OpR X (binaryOp op) (rBinO C sp E) := by
  intro pins s σ H x y v u Q I rx ry h
  obtain ⟨a, dx, fs, rfl, ha, ⟨b, dy, gs, rfl, hb'⟩, h⟩ := h
  cases rx
  cases ry
  obtain ⟨ox, od, J⟩ := inst_at I ha
  obtain ⟨ox', od', J'⟩ := inst_at I hb'
  obtain ⟨m, hF⟩ := I.fr
  exact PySem.W.binop_K hF I.ok.mod.kin J J'.type sf S1.at_ S1.fn (wpAny_mono (run_sub (dvs := []) (vs := [.ref a, .ref b]) F ⟨hr, rfl⟩ hb .nil hx I (.cons rfl (.cons rfl .nil)) h) (fun v s' hv => cmpBack hv) fun _ _ z => z)
structure BinT (K : PySem.W.Frag) (C : Addr) (nm T : String) (f : Addr) : Prop where
  sp : Spec1 K C (PySem.dunder nm) f
  sf : PySem.W.selfFirst K C = true
  rc : PySem.W.findIn K (.ref C) (dunderR nm) = some none
  h1 : ∃ fo, PySem.W.findIn K (.type T) (PySem.dunder nm) = some fo
  h2 : ∃ ro, PySem.W.findIn K (.type T) (dunderR nm) = some ro
  sub : PySem.W.subIn K (.type T) (.ref C) = some false
theorem op_binO_int {op : Operator} (S1 : BinT X.K C op.info.2 "int" f) (F : FnOk X.prog X.w X.K X.mg X.base CX k f fd ps sp) (hr : Room k X.A) (hb : Binds X.K fd ps []) (hx : Passes CX X E) : OpR X (binaryOp op) (rBinI C sp E) := by
  intro pins s σ H x y v u Q I rx ry h
  obtain ⟨a, dx, fs, rfl, ha, ⟨i, rfl⟩, h⟩ := h
  cases rx
  obtain ⟨t, rfl⟩ := ry
  obtain ⟨ox, od, J⟩ := inst_at I ha
  obtain ⟨m, hF⟩ := I.fr
  obtain ⟨fo, h1⟩ := S1.h1
  obtain ⟨ro, h2⟩ := S1.h2
  exact PySem.W.ksp_binT (T := "int") hF I.ok.mod.kin J rfl S1.sf S1.sp.at_ S1.sp.fn S1.rc (.inl rfl) h1 h2 S1.sub (wpAny_mono (run_sub (dvs := []) (vs := [.ref a, .int i]) F ⟨hr, rfl⟩ hb .nil hx I (.cons rfl (.cons ⟨t, rfl⟩ .nil)) h) (fun v s' hv => cmpBack hv) fun _ _ z => z)
end
end WB
namespace WB
open PySem PySem.Spec PyProof.Rows L2
abbrev St := L2.St
def Ex (m : List Addr) (H H' : Hp) : Prop := ∀ b o, b ∉ m → H b = some o → H' b = some o
section
variable {m m' : List Addr} {H H' H1 H2 : Hp} {a p : Addr} {o u : HO} {K : PySem.W.Frag} {xs : List V}
theorem Ex.rfl : Ex m H H := fun _ _ _ h => h
theorem Ex.trans (a : Ex m H H1) (b : Ex m H1 H2) : Ex m H H2 := fun x o n h => b x o n (a x o n h)
theorem Ex.snoc (b : Ex m H1 H2) (a : Ex m H H1) : Ex m H H2 := a.trans b
theorem Ex.wide (e : Ex [] H H') : Ex m H H' := fun b o _ h => e b o (by simp) h
theorem Ex.snocW (b : Ex [] H1 H2) (a : Ex m H H1) : Ex m H H2 := a.trans b.wide
theorem Ex.new (h : H p = none) : Ex m H (upd H p o) := fun a u _ e => by rw [upd_ne (ne_of_none e h)]; exact e
theorem Ex.put (hp : p ∈ m) : Ex m H (upd H p o) := fun a u n e => by rw [upd_ne (fun z => n (by rw [z]; exact hp))]; exact e
theorem Ex.get (e : Ex m H H') (n : a ∉ m) (h : H a = some o) : H' a = some o := e a o n h
theorem Ex.get0 (e : Ex [] H H') (h : H a = some o) : H' a = some o := e a o (by simp) h
theorem Ex.rd (e : Ex m H H') (n : a ∉ m) (h : Rd H a u) : Rd H' a u := by
  rcases h with h | ⟨ob, h⟩
  · exact .inl (e a _ n h)
  · exact .inr ⟨ob, e a _ n h⟩
theorem Ex.sqL (e : Ex m H H') (n : a ∉ m) (h : SqL K H a xs) : SqL K H' a xs := by
  rcases h with h | h
  · exact .inl (e.rd n h)
  · exact .inr h
theorem Ex.sqT (e : Ex m H H') (n : a ∉ m) (h : SqT K H a xs) : SqT K H' a xs := by
  rcases h with h | h
  · exact .inl (e.rd n h)
  · exact .inr h
theorem Ex.free (e : Ex [] H H') (h : H' p = none) : H p = none := by
  cases q : H p with
  | none => rfl
  | some o => rw [e p o (by simp) q] at h; cases h
end
def rep (k : Nat) (l : List Nat) : List Nat := (List.replicate k l).flatten
def FldG (K : PySem.W.Frag) (f : Str) (x : V) (H : Hp) (Q : VK) : Prop := ∃ a C dx fs v, x = .ref a ∧ H a = some (.ins C dx fs) ∧ Cls K C ∧ NoAttr K C f ∧ fs.lookup f = some v ∧ Q v H
def PropG (C : Addr) (sp : Sp) (dvs : List V) (E : XK) (x : V) (H : Hp) (Q : VK) : Prop := ∃ a dx fs, x = .ref a ∧ H a = some (.ins C dx fs) ∧ sp (.ref a :: dvs) H Q E
def MakeG (C : Addr) (sp : Sp) (dvs : List V) (E : XK) (vs : List V) (H1 : Hp) (Q : VK) : Prop := ∀ x dx, H1 x = none → H1 dx = none → dx ≠ x → sp (.ref x :: (vs ++ dvs)) (upd (upd H1 dx (.own x)) x (.ins C dx [])) (fun v H2 => v = .non ∧ Q (.ref x) H2) E
def MethG (C : Addr) (m : Str) (sp : Sp) (dvs : List V) (E : XK) (t : TA) (σ : St) (x : V) (H1 : Hp) (Q : VK) : Prop := ∃ a dx fs, x = .ref a ∧ H1 a = some (.ins C dx fs) ∧ fs.lookup m = none ∧ t σ H1 fun vs H2 => sp (x :: (vs ++ dvs)) H2 Q E
def RevG (x : V) (H : Hp) (Q : VK) : Prop := ∃ l : List Nat, x = vS l ∧ l.length ≤ sizeLine ∧ Q (vS l.reverse) H
def SetG (K : PySem.W.Frag) (f : Str) (y x : V) (H : Hp) (R : Hp → Prop) : Prop := ∃ a C dx fs, x = .ref a ∧ H a = some (.ins C dx fs) ∧ Cls K C ∧ NoAttr K C f ∧ fs.length < 1000 ∧ R (upd H a (.ins C dx (putF f y fs)))
def Al (o : HO) (n : Nat) (H : Hp) (Q : VK) : Prop := n ≤ sizeLine ∧ ∀ p, H p = none → Q (.ref p) (upd H p o)
section
variable {σ : St} {H : Hp} {Q : VK} {ta tb tc te : TE} {t u : TT} {tr : TA} {v x y : V} {r r' : R2} {i : Nat} {K : PySem.W.Frag} {R : Bool → Hp → Prop} {A B : Prop}
theorem s_var (h : σ[i]? = some (some v)) (k : Q v H) : tVar i σ H Q := ⟨v, h, k⟩
theorem s_c (k : Q v H) : tC v σ H Q := k
theorem s_cS {z : Str} {l : List Nat} (e : z = S l) (k : Q (vS l) H) : tC (.str z) σ H Q := by rw [e]; exact k
theorem s_op (k : ta σ H fun x H1 => tb σ H1 fun y H2 => r x y H2 Q) : tOp r ta tb σ H Q := k
theorem s_un {r : V → Hp → VK → Prop} (k : ta σ H fun x H1 => r x H1 Q) : tUn r ta σ H Q := k
theorem s_cb {r : List V → Hp → VK → Prop} (k : tr σ H fun vs H1 => r vs H1 Q) : tCB r tr σ H Q := k
theorem s_nil {R : List V → Hp → Prop} (k : R [] H) : tNil σ H R := k
theorem s_cons {R : List V → Hp → Prop} (k : ta σ H fun x H1 => tr σ H1 fun xs H2 => R (x :: xs) H2) : tCons ta tr σ H R := k
theorem s_call {sp : Sp} {dvs : List V} {E : XK} (k : tr σ H fun vs H1 => sp (vs ++ dvs) H1 Q E) : tCall sp dvs E tr σ H Q := k
theorem s_tup (k : tr σ H fun xs H1 => Al (.tup xs) xs.length H1 Q) : tTup tr σ H Q := k
theorem s_lst (k : tr σ H fun xs H1 => Al (.lst xs) xs.length H1 Q) : tLst tr σ H Q := k
theorem s_alloc {n : Nat} {o : HO} (h : n ≤ sizeLine) (k : ∀ p H2, H p = none → Ex [] H H2 → H2 p = some o → Q (.ref p) H2) : Al o n H Q :=
  ⟨h, fun p hp => k p _ hp (Ex.new hp) upd_same⟩
theorem s_new {o : HO} (k : ∀ p H2, H p = none → Ex [] H H2 → H2 p = some o → Q (.ref p) H2) : ∀ p, H p = none → Q (.ref p) (upd H p o) :=
  fun p hp => k p _ hp (Ex.new hp) upd_same
theorem s_not (k : t σ H fun c H1 => R (!c) H1) : tNot t σ H R := k
theorem s_and (k : t σ H fun c H1 => if c = true then u σ H1 R else R false H1) : tAnd t u σ H R := k
theorem s_or (k : t σ H fun c H1 => if c = true then R true H1 else u σ H1 R) : tOr t u σ H R := k
theorem s_test (k : te σ H fun x H' => ∃ k, x = .bl k ∧ R k H') : tTest te σ H R := k
theorem s_tB (k : te σ H fun x H' => ∃ k, x = .bl k ∧ R k H') : tB te σ H R := k
theorem s_blQ {b : Bool} {P : Bool → Prop} (k : P b) : ∃ c, V.bl b = .bl c ∧ P c := ⟨b, rfl, k⟩
theorem s_andV (k : ta σ H fun x H1 => ∃ c, x = .bl c ∧ if c = true then tb σ H1 Q else Q (.bl false) H1) : tAndV ta tb σ H Q := k
theorem s_orV (k : ta σ H fun x H1 => ∃ c, x = .bl c ∧ if c = true then Q (.bl true) H1 else tb σ H1 Q) : tOrV ta tb σ H Q := k
theorem s_notV (k : ta σ H fun x H1 => ∃ c, x = .bl c ∧ Q (.bl (!c)) H1) : tNotV ta σ H Q := k
theorem s_ifE (k : t σ H fun c H1 => if c = true then ta σ H1 Q else tb σ H1 Q) : tIf t ta tb σ H Q := k
theorem s_yes (k : R true H) : tYes σ H R := k
theorem s_chain (k : ta σ H fun x H1 => tb σ H1 fun y H2 => r x y H2 fun z H3 => ∃ k, z = .bl k ∧ (if k = true then tc σ H3 fun w' H4 => r' y w' H4 Q else Q (.bl false) H3)) : tChain r r' ta tb tc σ H Q := k
theorem s_T {b : Bool} (h : b = true) (k : A) : if b = true then A else B := by rw [if_pos h]; exact k
theorem s_F {b : Bool} (h : b = false) (k : B) : if b = true then A else B := by rw [if_neg (by rw [h]; decide)]; exact k
theorem s_2 {b : Bool} (k1 : b = true → A) (k2 : b = false → B) : if b = true then A else B := by
  cases b with
  | true => exact s_T rfl (k1 rfl)
  | false => exact s_F rfl (k2 rfl)
theorem s_nT (k : B) : if (!true) = true then A else B := s_F rfl k
theorem s_nF (k : A) : if (!false) = true then A else B := s_T rfl k
theorem s_Td {P : Prop} [Decidable P] (h : P) (k : A) : if decide P = true then A else B := s_T (decide_eq_true h) k
theorem s_Fd {P : Prop} [Decidable P] (h : ¬ P) (k : B) : if decide P = true then A else B := s_F (decide_eq_false h) k
theorem s_nTd {P : Prop} [Decidable P] (h : ¬ P) (k : A) : if (!decide P) = true then A else B := s_T (by rw [decide_eq_false h]; rfl) k
theorem s_nFd {P : Prop} [Decidable P] (h : P) (k : B) : if (!decide P) = true then A else B := s_F (by rw [decide_eq_true h]; rfl) k
theorem s_nB {b : Bool} (h : b = true) (k : B) : if (!b) = true then A else B := s_F (by rw [h]; rfl) k
theorem s_nA {b : Bool} (h : b = false) (k : A) : if (!b) = true then A else B := s_T (by rw [h]; rfl) k
theorem s_addI {i j : Int} (k : Q (.int (i + j)) H) : rAddI (.int i) (.int j) H Q := ⟨i, j, rfl, rfl, k⟩
theorem s_subI {i j : Int} (k : Q (.int (i - j)) H) : rSubI (.int i) (.int j) H Q := ⟨i, j, rfl, rfl, k⟩
theorem s_mulI {i j : Int} (h : CMul i j) (k : Q (.int (i * j)) H) : rMulI (.int i) (.int j) H Q := ⟨i, j, rfl, rfl, h, k⟩
theorem s_divI {i j : Int} (h : CDiv i j) (k : Q (.int (i / j)) H) : rDivI (.int i) (.int j) H Q := ⟨i, j, rfl, rfl, h, k⟩
theorem s_modI {i j : Int} (h : 0 < j) (k : Q (.int (i % j)) H) : rModI (.int i) (.int j) H Q := ⟨i, j, rfl, rfl, h, k⟩
theorem s_powI {i j : Int} (h : CPow i j) (k : Q (.int (i ^ j.toNat)) H) : rPowI (.int i) (.int j) H Q := ⟨i, j, rfl, rfl, h, k⟩
theorem s_ltI {i j : Int} (k : Q (.bl (decide (i < j))) H) : rLtI (.int i) (.int j) H Q := ⟨i, j, rfl, rfl, k⟩
theorem s_leI {i j : Int} (k : Q (.bl (decide (i ≤ j))) H) : rLeI (.int i) (.int j) H Q := ⟨i, j, rfl, rfl, k⟩
theorem s_gtI {i j : Int} (k : Q (.bl (decide (j < i))) H) : rGtI (.int i) (.int j) H Q := ⟨i, j, rfl, rfl, k⟩
theorem s_geI {i j : Int} (k : Q (.bl (decide (j ≤ i))) H) : rGeI (.int i) (.int j) H Q := ⟨i, j, rfl, rfl, k⟩
theorem s_negI {i : Int} (k : Q (.int (-i)) H) : rNegI (.int i) H Q := ⟨i, rfl, k⟩
theorem s_absI {i : Int} (k : Q (.int (if i < 0 then -i else i)) H) : rAbsI [.int i] H Q := ⟨i, rfl, k⟩
theorem s_intI {i : Int} (k : Q (.int i) H) : rIntI [.int i] H Q := .inl ⟨i, rfl, k⟩
theorem s_min2 {i j : Int} (k : Q (.int (if j < i then j else i)) H) : rMin2 [.int i, .int j] H Q := ⟨i, j, rfl, k⟩
theorem s_max2 {i j : Int} (k : Q (.int (if j > i then j else i)) H) : rMax2 [.int i, .int j] H Q := ⟨i, j, rfl, k⟩
theorem s_addS {a b : List Nat} (h : a.length + b.length ≤ sizeLine) (k : Q (vS (a ++ b)) H) : rAddS (vS a) (vS b) H Q := ⟨a, b, rfl, rfl, h, k⟩
theorem s_mulS {a : List Nat} {n : Int} (h0 : 0 ≤ n) (h1 : n ≤ 100000) (h2 : a.length * n.toNat ≤ 100000) (k : Q (vS (rep n.toNat a)) H) : rMulS (vS a) (.int n) H Q :=
  ⟨a, n.toNat, rfl, by rw [Int.toNat_of_nonneg h0], by omega, h2, k⟩
theorem s_eqI {i j : Int} (k : Q (.bl (decide (i = j))) H) : rEq (.int i) (.int j) H Q := ⟨rfl, by
  have : decide (V.int i = V.int j) = decide (i = j) := by simp
  rw [this]; exact k⟩
theorem s_neI {i j : Int} (k : Q (.bl (!decide (i = j))) H) : rNe (.int i) (.int j) H Q := ⟨rfl, by
  have : decide (V.int i = V.int j) = decide (i = j) := by simp
  rw [this]; exact k⟩
theorem vS_eq {a b : List Nat} : (vS a = vS b) ↔ a = b := ⟨fun h => S_inj (V.str.inj h), fun h => by rw [h]⟩
theorem s_eqS {a b : List Nat} (k : Q (.bl (decide (a = b))) H) : rEq (vS a) (vS b) H Q := ⟨rfl, by
  have : decide (V.str (S a) = V.str (S b)) = decide (a = b) := by simp only [show (V.str (S a) = V.str (S b)) ↔ a = b from vS_eq]
  rw [this]; exact k⟩
theorem s_neS {a b : List Nat} (k : Q (.bl (!decide (a = b))) H) : rNe (vS a) (vS b) H Q := ⟨rfl, by
  have : decide (V.str (S a) = V.str (S b)) = decide (a = b) := by simp only [show (V.str (S a) = V.str (S b)) ↔ a = b from vS_eq]
  rw [this]; exact k⟩
theorem s_inSg {c : Nat} {l : List Nat} (k : Q (.bl (decide (c ∈ l))) H) : rInSg (vS [c]) (vS l) H Q := ⟨c, S l, rfl, rfl, by rw [S_cps]; exact k⟩
theorem s_notInSg {c : Nat} {l : List Nat} (k : Q (.bl (!decide (c ∈ l))) H) : rNotInSg (vS [c]) (vS l) H Q := ⟨c, S l, rfl, rfl, by rw [S_cps]; exact k⟩
theorem s_lenS {l : List Nat} (h : l.length ≤ sizeLine) (k : Q (.int l.length) H) : rLenV K [vS l] H Q := ⟨vS l, l.length, rfl, ⟨by rw [S_len]; exact h, (S_len l).symm⟩, k⟩
theorem s_lenL {a : Addr} {xs : List V} (h : SqL K H a xs) (k : Q (.int xs.length) H) : rLenV K [.ref a] H Q := ⟨_, _, rfl, .inl ⟨xs, h, rfl⟩, k⟩
theorem s_lenT {a : Addr} {xs : List V} (h : SqT K H a xs) (k : Q (.int xs.length) H) : rLenV K [.ref a] H Q := ⟨_, _, rfl, .inr ⟨xs, h, rfl⟩, k⟩
theorem s_isiII {i : Int} (k : Q (.bl true) H) : rIsi K [.int i, .ty "int"] H Q := ⟨_, _, _, _, _, rfl, .ty _, .base (.int _), kit_ty (by decide +kernel), k⟩
theorem s_isiIB {i : Int} (k : Q (.bl false) H) : rIsi K [.int i, .ty "bool"] H Q := ⟨_, _, _, _, _, rfl, .ty _, .base (.int _), kit_ty (by decide +kernel), k⟩
theorem s_isiSS {z : Str} (k : Q (.bl true) H) : rIsi K [.str z, .ty "str"] H Q := ⟨_, _, _, _, _, rfl, .ty _, .base (.str _), kit_ty (by decide +kernel), k⟩
theorem s_all {a : Addr} {bs : List Bool} (h : SqL K H a (bs.map V.bl)) (k : Q (.bl (bs.all id)) H) : rAll K [.ref a] H Q := ⟨a, bs, rfl, h, k⟩
theorem s_cat {a b : Addr} {xs ys : List V} (h1 : H a = some (.lst xs)) (h2 : H b = some (.lst ys)) (hl : xs.length + ys.length ≤ sizeLine) (k : ∀ p H2, H p = none → Ex [] H H2 → H2 p = some (.lst (xs ++ ys)) → Q (.ref p) H2) : rCat (.ref a) (.ref b) H Q := ⟨a, b, xs, ys, rfl, rfl, h1, h2, hl, s_new k⟩
theorem s_divmod {i j : Int} (h : CDivP i j) (k : ∀ p H2, H p = none → Ex [] H H2 → H2 p = some (.tup [.int (i / j), .int (i % j)]) → Q (.ref p) H2) : rDivmod [.int i, .int j] H Q := ⟨i, j, rfl, h, s_new k⟩
theorem s_ixL {a : Addr} {xs : List V} {n : Int} (h : SqL K H a xs) (hi : atI xs n = some v) (k : Q v H) : rIxL K (.ref a) (.int n) H Q := ⟨a, xs, n, v, rfl, rfl, h, hi, k⟩
theorem s_ixT {a : Addr} {xs : List V} {n : Int} (h : SqT K H a xs) (hi : atI xs n = some v) (k : Q v H) : rIxT K (.ref a) (.int n) H Q := ⟨a, xs, n, v, rfl, rfl, h, hi, k⟩
theorem s_ixS {l : List Nat} {n : Int} {c : Nat} (hl : l.length ≤ sizeLine) (hi : atI l n = some c) (k : Q (vS [c]) H) : rIxS (vS l) (.int n) H Q := ⟨S l, n, c, rfl, rfl, by rw [S_len]; exact hl, by rw [S_cps]; exact hi, k⟩
theorem s_minS {a : Addr} {x : List Nat} {xs : List (List Nat)} (h : SqL K H a ((x :: xs).map vS)) (k : Q (vS (minL x xs)) H) : rMinS K [.ref a] H Q := ⟨a, x, xs, rfl, h, k⟩
theorem s_revS (k : te σ H fun x H1 => RevG x H1 Q) : tRevS te σ H Q := k
theorem s_revS1 {l : List Nat} (h : l.length ≤ sizeLine) (k : Q (vS l.reverse) H) : RevG (vS l) H Q := ⟨l, rfl, h, k⟩
def cut (l : List Nat) (lo hi : Option Int) : List Nat := (l.drop (HT.sIx l.length 0 lo)).take (HT.sIx l.length l.length hi - HT.sIx l.length 0 lo)
theorem s_sl {r : V → Option Int → Option Int → Hp → VK → Prop} {tl th : TO} (k : te σ H fun x H1 => tl σ H1 fun l H2 => th σ H2 fun u H3 => r x l u H3 Q) : tSl r te tl th σ H Q := k
theorem s_noPart {R : Option Int → Hp → Prop} (k : R none H) : tNoPart σ H R := k
theorem s_part {R : Option Int → Hp → Prop} (k : te σ H fun x H1 => ∃ i, x = .int i ∧ R (some i) H1) : tPart te σ H R := k
theorem s_int1 {n : Int} {P : Int → Prop} (k : P n) : ∃ i, V.int n = .int i ∧ P i := ⟨n, rfl, k⟩
theorem s_slS {l : List Nat} {lo hi : Option Int} (h : l.length ≤ sizeLine) (k : Q (vS (cut l lo hi)) H) : rSlS (vS l) lo hi H Q := ⟨S l, rfl, by rw [S_len]; exact h, by
  have e : cutS (S l) lo hi = S (cut l lo hi) := by
    unfold cutS cut
    rw [S_len, S_cps]
    rfl
  rw [e]
  exact k⟩
theorem s_slL {a : Addr} {xs : List V} {lo hi : Option Int} (h : SqL K H a xs) (k : ∀ p H2, H p = none → Ex [] H H2 → H2 p = some (.lst (cutV xs lo hi)) → Q (.ref p) H2) : rSlL K (.ref a) lo hi H Q := ⟨a, xs, rfl, h, s_new k⟩
theorem cut_from {l : List Nat} {n : Int} (h0 : 0 ≤ n) : cut l (some n) none = l.drop n.toNat := by
  unfold cut
  have e : HT.sIx l.length 0 (some n) = min n.toNat l.length := by
    show (if n < 0 then (n + (l.length : Int)).toNat else min n.toNat l.length) = _
    rw [if_neg (by omega)]
  have e2 : HT.sIx l.length l.length none = l.length := rfl
  rw [e, e2]
  rcases Nat.le_total n.toNat l.length with h | h
  · rw [Nat.min_eq_left h, List.take_of_length_le (by simp)]
  · rw [Nat.min_eq_right h, List.drop_of_length_le h]
    simp
theorem cut_to {l : List Nat} {n : Int} (h0 : 0 ≤ n) : cut l none (some n) = l.take n.toNat := by
  unfold cut
  have e : HT.sIx l.length l.length (some n) = min n.toNat l.length := by
    show (if n < 0 then (n + (l.length : Int)).toNat else min n.toNat l.length) = _
    rw [if_neg (by omega)]
  have e2 : HT.sIx l.length 0 none = 0 := rfl
  rw [e, e2]
  rcases Nat.le_total n.toNat l.length with h | h
  · rw [Nat.min_eq_left h]; simp
  · rw [Nat.min_eq_right h, List.take_of_length_le h]; simp
theorem s_M1 {r : V → List V → Hp → VK → Prop} (k : ta σ H fun x H1 => (∃ a, x = .str a) ∧ te σ H1 fun y H2 => r x [y] H2 Q) : tM1 r ta te σ H Q := k
theorem s_isStr {z : Str} {B : Prop} (k : B) : (∃ a, V.str z = .str a) ∧ B := ⟨⟨z, rfl⟩, k⟩
theorem joinL_nil : ∀ ls : List (List Nat), TL.joinL [] ls = ls.flatten
  | [] => rfl
  | [p] => by simp [TL.joinL]
  | p :: q :: r => by
    show p ++ ([] ++ TL.joinL [] (q :: r)) = _
    rw [joinL_nil (q :: r)]
    simp
theorem join_empty (ls : List (List Nat)) : Txt.join (S []) (ls.map S) = S ls.flatten := by
  rw [TL.join_eq, S_of (Str.join (S []) (ls.map S))]
  have := TL.tl_join (S []) (ls.map S)
  unfold TL.tl at this
  rw [this, List.map_map]
  have e : ls.map ((fun x : Str => x.cps.toList) ∘ S) = ls := by
    conv => rhs; rw [← List.map_id ls]
    apply List.map_congr_left
    intro z _
    exact S_cps z
  show S (TL.joinL (S []).cps.toList (ls.map ((fun x : Str => x.cps.toList) ∘ S))) = _
  rw [e, S_cps, joinL_nil]
theorem s_join0 {a : Addr} {ls : List (List Nat)} (h : SqL K H a (ls.map vS)) (hz : ls.flatten.length ≤ 16777216) (k : Q (vS ls.flatten) H) : rJoin K (vS []) [.ref a] H Q := by
  refine ⟨S [], a, ls.map S, rfl, rfl, .inl ?_, ?_, ?_⟩
  · rw [List.map_map]; exact h
  · rw [List.map_map]
    have e1 : (ls.map ((fun x : Str => x.length) ∘ S)) = ls.map List.length := by
      apply List.map_congr_left
      intro z _
      exact S_len z
    rw [e1, S_len]
    simpa using hz
  · rw [join_empty]; exact k
theorem s_fldE {f : Str} (k : ta σ H fun x H1 => FldG K f x H1 Q) : tFld K ta f σ H Q := k
theorem s_propE {C : Addr} {sp : Sp} {dvs : List V} {E : XK} (k : ta σ H fun x H1 => PropG C sp dvs E x H1 Q) : tProp C sp dvs E ta σ H Q := k
theorem s_makeE {C : Addr} {sp : Sp} {dvs : List V} {E : XK} (k : tr σ H fun vs H1 => MakeG C sp dvs E vs H1 Q) : tMake C sp dvs E tr σ H Q := k
theorem s_methE {C : Addr} {m : Str} {sp : Sp} {dvs : List V} {E : XK} (k : ta σ H fun x H1 => MethG C m sp dvs E tr σ x H1 Q) : tMeth C m sp dvs E ta tr σ H Q := k
end
theorem s_setL {a : Addr} {xs : List V} {j : Nat} {v : V} {H : Hp} {R : Hp → Prop} {n : Int} (h : H a = some (.lst xs)) (hj : ixN xs.length n = some j) (k : ∀ H2, Ex [a] H H2 → H2 a = some (.lst (xs.set j v)) → R H2) : rSetL (.ref a) (.int n) v H R := ⟨a, xs, n, j, rfl, rfl, h, hj, k _ (Ex.put (by simp)) upd_same⟩
theorem s_gSub {ta tb : TE} {t : TSet} {v : V} {σ : St} {H : Hp} {R : St → Hp → Prop} (k : ta σ H fun o H1 => tb σ H1 fun i H2 => t o i v H2 fun H3 => R σ H3) : gSub ta tb t v σ H R := k
theorem s_gTup {K : PySem.W.Frag} {a : Addr} {xs : List V} {n : Nat} {t : TGs} {σ : St} {H : Hp} {R : St → Hp → Prop} (h : SqT K H a xs) (hn : xs.length = n) (k : t xs σ H R) : gTup K n t (.ref a) σ H R := ⟨a, xs, rfl, h, hn, k⟩
theorem s_gLst {K : PySem.W.Frag} {a : Addr} {xs : List V} {n : Nat} {t : TGs} {σ : St} {H : Hp} {R : St → Hp → Prop} (h : SqL K H a xs) (hn : xs.length = n) (k : t xs σ H R) : gLst K n t (.ref a) σ H R := ⟨a, xs, rfl, h, hn, k⟩
theorem s_gCons {t : TG} {u : TGs} {v : V} {r : List V} {σ : St} {H : Hp} {R : St → Hp → Prop} (k : t v σ H fun σ' H' => u r σ' H' R) : gCons t u (v :: r) σ H R := ⟨v, r, rfl, k⟩
theorem s_gNil {σ : St} {H : Hp} {R : St → Hp → Prop} (k : R σ H) : gNil [] σ H R := ⟨rfl, k⟩
section
variable {n b c : St → Hp → Prop} {rt : VK} {σ : St} {H : Hp} {te : TE} {tt : TT} {t u : TS} {i : Nat} {K : PySem.W.Frag}
theorem s_seq (k : t ⟨u ⟨n, rt, b, c⟩, rt, b, c⟩ σ H) : tSeq t u ⟨n, rt, b, c⟩ σ H := k
theorem s_sfld {ta tv : TE} {f : Str} (k : tv σ H fun y H1 => ta σ H1 fun x H2 => SetG K f y x H2 (n σ)) : sFld K ta tv f ⟨n, rt, b, c⟩ σ H := k
theorem s_next (k : n σ H) : tNext ⟨n, rt, b, c⟩ σ H := k
theorem s_asg {g : TG} (k : te σ H fun x H1 => g x σ H1 n) : tAsg te g ⟨n, rt, b, c⟩ σ H := k
theorem s_gName {v : V} {R : St → Hp → Prop} (k : R (σ.set i (some v)) H) : gName i v σ H R := k
theorem s_ret (k : te σ H rt) : tRet te ⟨n, rt, b, c⟩ σ H := k
theorem s_drop (k : te σ H fun _ H1 => n σ H1) : tDrop te ⟨n, rt, b, c⟩ σ H := k
theorem s_ifS (k : tt σ H fun q H1 => if q = true then t ⟨n, rt, b, c⟩ σ H1 else u ⟨n, rt, b, c⟩ σ H1) : tIfS tt t u ⟨n, rt, b, c⟩ σ H := k
theorem s_par {i j : Nat} {ta : TA} (k : ta σ H fun vs H1 => ∃ v w, vs = [v, w] ∧ n ((σ.set i (some v)).set j (some w)) H1) : tPar i j ta ⟨n, rt, b, c⟩ σ H := k
theorem s_pair {v w : V} {P : V → V → Prop} (k : P v w) : ∃ v' w', [v, w] = [v', w'] ∧ P v' w' := ⟨v, w, rfl, k⟩
end
end WB
namespace WB
open PySem PySem.Spec PyProof.Rows L2
theorem wipe1 (σ : St) (j : Nat) (x : Option V) : wipe ((wipe σ [j]).set j x) [j] = wipe σ [j] := by
  show ((σ.set j none).set j x).set j none = σ.set j none
  rw [List.set_set, List.set_set]
def LcW (J : It) (g : TG) (tt : TT) (te : TE) (vs : List Nat) (σ : St) (H1 : Hp) (Q : VK) : Prop := ∀ D, H1 D = none → ∃ W : Nat → Nat → Hp → Prop, (∃ m, W 0 m (upd H1 D (.lst []))) ∧ ∀ i m H, W i m H →
  (J.stop i H ∧ Q (.ref D) H) ∨ (J.go i H ∧ ∃ Nx : Hp → Prop, (∀ H', Nx H' → ∃ m', m' < m ∧ W (i + 1) m' H') ∧ ∀ x H', J.yld i H x H' → g x (wipe σ vs) H' fun σ2 H2 => wipe σ2 vs = wipe σ vs ∧ tt σ2 H2 fun b H3 =>
    if b = true then te σ2 H3 fun y H4 => ∃ acc, H4 D = some (.lst acc) ∧ acc.length < sizeLine ∧ Nx (upd H4 D (.lst (acc ++ [y]))) else Nx H3)
theorem s_lc {wi : TI} {g : TG} {tt : TT} {te : TE} {vs : List Nat} {σ : St} {H : Hp} {Q : VK} (k : wi σ H fun J H1 => LcW J g tt te vs σ H1 Q) : tLc wi g tt te vs σ H Q := k
theorem s_rng1 {ta : TA} {σ : St} {H : Hp} {R : It → Hp → Prop} (k : ta σ H fun vs H1 => ∃ j : Int, vs = [.int j] ∧ -(2 ^ 62) ≤ j ∧ j < 2 ^ 62 ∧ R (Itr 0 j.toNat) H1) : iRng1 ta σ H R := k
theorem s_rng1i {j : Int} {C : Int → Prop} (h : -1000000 ≤ j ∧ j ≤ 1000000) (k : C j) : ∃ j' : Int, [V.int j] = [.int j'] ∧ -(2 ^ 62) ≤ j' ∧ j' < 2 ^ 62 ∧ C j' := ⟨j, rfl, by omega, by omega, k⟩
theorem s_rng2 {ta : TA} {σ : St} {H : Hp} {R : It → Hp → Prop} (k : ta σ H fun vs H1 => ∃ i j : Int, vs = [.int i, .int j] ∧ (-(2 ^ 62) ≤ i ∧ i < 2 ^ 62 ∧ -(2 ^ 62) ≤ j ∧ j < 2 ^ 62) ∧ R (Itr i (j - i).toNat) H1) : iRng2 ta σ H R := k
theorem s_rng2i {i j : Int} {C : Int → Int → Prop} (h : -1000000 ≤ i ∧ i ≤ 1000000 ∧ -1000000 ≤ j ∧ j ≤ 1000000) (k : C i j) : ∃ i' j' : Int, [V.int i, V.int j] = [.int i', .int j'] ∧ (-(2 ^ 62) ≤ i' ∧ i' < 2 ^ 62 ∧ -(2 ^ 62) ≤ j' ∧ j' < 2 ^ 62) ∧ C i' j' := ⟨i, j, rfl, by omega, k⟩
theorem s_iStr {te : TE} {σ : St} {H : Hp} {R : It → Hp → Prop} (k : te σ H fun v H1 => ∃ x, v = .str x ∧ R (Its x) H1) : iStr te σ H R := k
theorem s_iStrS {l : List Nat} {C : Str → Prop} (k : C (S l)) : ∃ x, vS l = .str x ∧ C x := ⟨_, rfl, k⟩
theorem s_iList {K : PySem.W.Frag} {te : TE} {σ : St} {H : Hp} {R : It → Hp → Prop} (k : te σ H fun x H1 => ∃ a, x = .ref a ∧ (∃ xs, SqL K H1 a xs) ∧ R (Itl K a) H1) : iList K te σ H R := k
theorem s_iListA {K : PySem.W.Frag} {a : Addr} {xs : List V} {H : Hp} {C : Addr → Prop} (h : SqL K H a xs) (k : C a) : ∃ b, V.ref a = .ref b ∧ (∃ xs, SqL K H b xs) ∧ C b := ⟨a, rfl, ⟨xs, h⟩, k⟩
theorem s_iTup {K : PySem.W.Frag} {te : TE} {σ : St} {H : Hp} {R : It → Hp → Prop} (k : te σ H fun x H1 => ∃ a, x = .ref a ∧ (∃ xs, SqT K H1 a xs) ∧ R (Itt K a) H1) : iTup K te σ H R := k
theorem s_iTupA {K : PySem.W.Frag} {a : Addr} {xs : List V} {H : Hp} {C : Addr → Prop} (h : SqT K H a xs) (k : C a) : ∃ b, V.ref a = .ref b ∧ (∃ xs, SqT K H b xs) ∧ C b := ⟨a, rfl, ⟨xs, h⟩, k⟩
theorem lc_run {J : It} {n : Nat} {G : Hp → Prop} {Y : Nat → Hp → V → Hp → Prop} {g : TG} {tt : TT} {te : TE} {vs : List Nat} {σ : St} {H : Hp} {Q : VK} (w : Walk J n G Y) (hn : n ≤ 100000)
    (m : List Addr) (R : Hp → Prop) (Acc : Nat → List V → Hp → Prop) (hm : ∀ a ∈ m, H a ≠ none) (r0 : R H) (a0 : Acc 0 [] H)
    (rU : ∀ H1 D o, D ∉ m → R H1 → R (upd H1 D o)) (aU : ∀ i acc H1 D o, (H1 D = none ∨ ∃ l, H1 D = some (.lst l)) → Acc i acc H1 → Acc i acc (upd H1 D (.lst o)))
    (hG : ∀ H1, Ex m H H1 → G H1)
    (step : ∀ (i : Nat) (acc : List V) (x : V) (H1 H2 : Hp) (C1 : VK) (C0 : Hp → Prop), i < n → Ex m H H1 → R H1 → Acc i acc H1 → Y i H1 x H2 →
      (∀ y H5, Ex m H1 H5 → R H5 → Acc (i + 1) (acc ++ [y]) H5 → C1 y H5) → (∀ H4, Ex m H1 H4 → R H4 → Acc (i + 1) acc H4 → C0 H4) →
      g x (wipe σ vs) H2 fun σ2 H3 => wipe σ2 vs = wipe σ vs ∧ tt σ2 H3 fun b H4 => if b = true then te σ2 H4 C1 else C0 H4)
    (k : ∀ D H' ys, H D = none → Ex m H H' → R H' → H' D = some (.lst ys) → ys.length ≤ n → Acc n ys H' → Q (.ref D) H') : LcW J g tt te vs σ H Q := by
  intro D hD
  have nD : D ∉ m := fun z => hm D z hD
  refine lc_it w (fun i H1 => Ex m H H1 ∧ R H1 ∧ ∃ acc, H1 D = some (.lst acc) ∧ acc.length ≤ i ∧ Acc i acc H1) ⟨Ex.new hD, rU _ _ _ nD r0, [], upd_same, Nat.le_refl _, aU _ _ _ _ _ (.inl hD) a0⟩ (fun i H1 _ h => hG H1 h.1) ?_ ?_
  · rintro i x H1 H2 hi ⟨e, r, acc, hd, hl, ha⟩ hy
    refine step i acc x H1 H2 _ _ hi e r ha hy (fun y H5 e5 r5 a5 => ?_) (fun H4 e4 r4 a4 => ?_)
    · have hd5 : H5 D = some (.lst acc) := e5 D _ nD hd
      refine ⟨acc, hd5, Nat.lt_of_le_of_lt (Nat.le_trans hl (Nat.le_trans (Nat.le_of_lt hi) hn)) (by decide), ?_, rU _ _ _ nD r5, acc ++ [y], upd_same, by rw [List.length_append]; simp; omega, aU _ _ _ _ _ (.inr ⟨acc, hd5⟩) a5⟩
      intro b o nb hb
      rw [upd_ne (ne_of_none hb hD)]
      exact e5 b o nb (e b o nb hb)
    · exact ⟨e.trans e4, r4, acc, e4 D _ nD hd, by omega, a4⟩
  · rintro H1 ⟨e, r, acc, hd, hl, ha⟩
    exact k D H1 acc hD e r hd hl ha
theorem lc_mapR {n j : Nat} {lo : Int} {te : TE} {σ : St} {H : Hp} {Q : VK} (hn : n ≤ 100000) (val : Nat → V)
    (h : ∀ (i : Nat) (H1 : Hp) (C : VK), i < n → Ex [] H H1 → (∀ H2, Ex [] H1 H2 → C (val i) H2) → te ((wipe σ [j]).set j (some (.int (lo + i)))) H1 C)
    (k : ∀ D H', H D = none → Ex [] H H' → H' D = some (.lst ((List.range n).map val)) → Q (.ref D) H') : LcW (Itr lo n) (gName j) tYes te [j] σ H Q := by
  refine lc_run walk_range hn [] (fun _ => True) (fun i acc _ => acc = (List.range i).map val) (by simp) trivial rfl (fun _ _ _ _ _ => trivial) (fun _ _ _ _ _ _ h => h) (fun _ _ => trivial) ?_ ?_
  · rintro i acc x H1 H2 C1 C0 hi e _ rfl ⟨rfl, rfl⟩ k1 k0
    refine ⟨wipe1 _ _ _, ?_⟩
    refine s_yes ?_
    refine s_T rfl ?_
    refine (h i H2 C1 hi e fun H5 e5 => k1 _ H5 e5 trivial ?_)
    rw [List.range_succ, List.map_append]
    rfl
  · rintro D H' ys hD e _ hd _ rfl
    exact k D H' hD e hd
theorem lc_mapS {l : List Nat} {j : Nat} {tt : TT} {te : TE} {σ : St} {H : Hp} {Q : VK} (hn : l.length ≤ 100000) (p : Nat → Bool) (val : Nat → V)
    (h : ∀ (c : Nat) (H1 : Hp) (C1 : VK) (C0 : Hp → Prop), c ∈ l → Ex [] H H1 → (∀ H2, Ex [] H1 H2 → p c = true → C1 (val c) H2) → (∀ H2, Ex [] H1 H2 → p c = false → C0 H2) →
      tt ((wipe σ [j]).set j (some (vS [c]))) H1 fun b H2 => if b = true then te ((wipe σ [j]).set j (some (vS [c]))) H2 C1 else C0 H2)
    (k : ∀ D H', H D = none → Ex [] H H' → H' D = some (.lst ((l.filter p).map val)) → Q (.ref D) H') : LcW (Its (S l)) (gName j) tt te [j] σ H Q := by
  have hs : (S l).cps.size = l.length := by simp [S]
  have w := walk_str (z := S l)
  rw [hs] at w
  refine lc_run w hn [] (fun _ => True) (fun i acc _ => acc = ((l.take i).filter p).map val) (by simp) trivial (by simp) (fun _ _ _ _ _ => trivial) (fun _ _ _ _ _ _ h => h) (fun _ _ => trivial) ?_ ?_
  · rintro i acc x H1 H2 C1 C0 hi e _ rfl ⟨rfl, c, hc, rfl⟩ k1 k0
    have hc : l[i]? = some c := by simpa [S] using hc
    refine ⟨wipe1 _ _ _, ?_⟩
    refine h c H2 C1 C0 (List.mem_of_getElem? hc) e (fun H5 e5 hp => k1 _ H5 e5 trivial ?_) (fun H5 e5 hp => k0 H5 e5 trivial ?_)
    · rw [List.take_add_one, hc, List.filter_append, List.map_append]
      simp [hp]
    · rw [List.take_add_one, hc, List.filter_append, List.map_append]
      simp [hp]
  · rintro D H' ys hD e _ hd _ rfl
    rw [← hs] at hd
    have : l.take (S l).cps.size = l := by rw [hs]; exact List.take_length
    rw [this] at hd
    exact k D H' hD e hd
def ForW (J : It) (g : TG) (tb : TS) (D : Ends) (σ : St) (H : Hp) : Prop := ∃ W : Nat → Nat → St → Hp → Prop, (∃ m, W 0 m σ H) ∧ ∀ i m σ H, W i m σ H →
  (J.stop i H ∧ D.nx σ H) ∨ (J.go i H ∧ ∃ N : St → Hp → Prop, (∀ σ' H', N σ' H' → ∃ m', m' < m ∧ W (i + 1) m' σ' H') ∧ ∀ x H', J.yld i H x H' → g x σ H' fun σ2 H2 => tb { D with nx := N, ct := N, bk := D.nx } σ2 H2)
theorem s_for {wi : TI} {g : TG} {tb : TS} {n b c : St → Hp → Prop} {rt : VK} {σ : St} {H : Hp} (k : wi σ H fun J H1 => ForW J g tb ⟨n, rt, b, c⟩ σ H1) : tFor wi g tb ⟨n, rt, b, c⟩ σ H := k
theorem for_run {J : It} {m : Nat} {G : Hp → Prop} {Y : Nat → Hp → V → Hp → Prop} {g : TG} {tb : TS} {n b c : St → Hp → Prop} {rt : VK} {σ : St} {H : Hp} (w : Walk J m G Y) (Pv : Nat → St → Hp → Prop) (h0 : Pv 0 σ H) (hG : ∀ i σ H, i ≤ m → Pv i σ H → G H)
    (hs : ∀ i x σ H H', i < m → Pv i σ H → Y i H x H' → g x σ H' fun σ2 H2 => tb ⟨Pv (i + 1), rt, n, Pv (i + 1)⟩ σ2 H2) (hd : ∀ σ H, Pv m σ H → n σ H) : ForW J g tb ⟨n, rt, b, c⟩ σ H :=
  for_it (D := ⟨n, rt, b, c⟩) w Pv h0 hG hs hd
theorem for_rng {lo : Int} {m : Nat} {g : TG} {tb : TS} {n b c : St → Hp → Prop} {rt : VK} {σ : St} {H : Hp} (Pv : Nat → St → Hp → Prop) (h0 : Pv 0 σ H)
    (hs : ∀ (i : Nat) σ H, i < m → Pv i σ H → g (.int (lo + i)) σ H fun σ2 H2 => tb ⟨Pv (i + 1), rt, n, Pv (i + 1)⟩ σ2 H2) (hd : ∀ σ H, Pv m σ H → n σ H) : ForW (Itr lo m) g tb ⟨n, rt, b, c⟩ σ H := by
  refine for_run walk_range Pv h0 (fun _ _ _ _ _ => trivial) ?_ hd
  rintro i x σ H H' hi hp ⟨rfl, rfl⟩
  exact hs i σ _ hi hp
theorem atI_of {α : Type} {xs : List α} {n : Int} {v : α} (h0 : 0 ≤ n) (h : xs[n.toNat]? = some v) : atI xs n = some v := by
  have h1 : n.toNat < xs.length := (List.getElem?_eq_some_iff.mp h).1
  unfold atI ixN
  rw [if_pos h0, if_pos (by omega)]
  exact h
theorem mem_cutV {xs : List V} {lo hi : Option Int} {x : V} (h : x ∈ cutV xs lo hi) : x ∈ xs := List.mem_of_mem_drop (List.mem_of_mem_take h)
end WB
namespace WB
open PySem PySem.Spec PyProof.Rows L2
def rot (l : List Nat) (i : Nat) : List Nat := l.drop i ++ l.take i
def rots (l : List Nat) : List (List Nat) := (List.range l.length).map (rot l)
def leastT (l : List Nat) : List Nat := match rots l with
  | [] => []
  | x :: xs => minL x xs
abbrev LET : List Nat := [97, 98, 99, 100, 101, 102, 103, 104, 105, 106, 107, 108, 109, 110, 111, 112, 113, 114, 115, 116, 117, 118, 119, 120, 121, 122]
theorem lit_abc : ("abcdefghijklmnopqrstuvwxyz" : Str) = S LET := by decide +kernel
theorem lit_empty : ("" : Str) = S [] := by decide +kernel
def isWord (l s : List Nat) : Bool := decide (1 ≤ l.length ∧ l.length ≤ 600) && l.all fun c => decide (c ∈ s)
theorem flat1 : ∀ ls : List Nat, (ls.map fun c => [c]).flatten = ls
  | [] => rfl
  | c :: r => by rw [List.map_cons, List.flatten_cons, flat1 r]; rfl
def KD : List String := ["int", "bool", "str", "NoneType", "list", "tuple", "dict"]
structure RingK (K : PySem.W.Frag) : Prop where
  cl : Cls K (He.ga K "Ring")
  na : NoAttr K (He.ga K "Ring") "least"
  ty : ∀ (H : Hp) (a dx : Addr) (fs : List (Str × V)), H a = some (.ins (He.ga K "Ring") dx fs) → TyX K H (.ref a) (.ref (He.ga K "Ring"))
  me : PySem.W.kitOne K (.ref (He.ga K "Ring")) (.ref (He.ga K "Ring")) = some true
  no : ∀ n ∈ KD, PySem.W.kitOne K (.type n) (.ref (He.ga K "Ring")) = some false
def RingAt (K : PySem.W.Frag) (H : Hp) (a : Addr) (l : List Nat) : Prop := ∃ dx, H a = some (.ins (He.ga K "Ring") dx [("least", vS l)])
theorem RingAt.ex' {K : PySem.W.Frag} {H H' : Hp} {a : Addr} {l : List Nat} {m : List Addr} (h : RingAt K H a l) (e : Ex m H H') (n : a ∉ m) : RingAt K H' a l := by
  obtain ⟨dx, h⟩ := h
  exact ⟨dx, e a _ n h⟩
theorem RingAt.ex {K : PySem.W.Frag} {H H' : Hp} {a : Addr} {l : List Nat} {m : List Addr} (e : Ex m H H') (n : a ∉ m) (h : RingAt K H a l) : RingAt K H' a l := by
  obtain ⟨dx, h⟩ := h
  exact ⟨dx, e a _ n h⟩
def RingOf (K : PySem.W.Frag) (x y : V) (H : Hp) : Prop := ∃ w a, x = vS w ∧ y = .ref a ∧ RingAt K H a (leastT w)
theorem RingOf.ex {K : PySem.W.Frag} {x y : V} {H H' : Hp} (e : Ex [] H H') (h : RingOf K x y H) : RingOf K x y H' := by
  obtain ⟨w, a, h1, h2, h3⟩ := h
  exact ⟨w, a, h1, h2, h3.ex' e (by simp)⟩
def TextOf (K : PySem.W.Frag) (x y : V) (H : Hp) : Prop := ∃ a l, x = .ref a ∧ y = vS l ∧ RingAt K H a l
theorem TextOf.ex {K : PySem.W.Frag} {x y : V} {H H' : Hp} (e : Ex [] H H') (h : TextOf K x y H) : TextOf K x y H' := by
  obtain ⟨w, a, h1, h2, h3⟩ := h
  exact ⟨w, a, h1, h2, h3.ex' e (by simp)⟩
def Kd (K : PySem.W.Frag) (H : Hp) (v : V) (n : String) : Prop := TyX K H v (.type n) ∧ n ∈ KD
def sp_is_integer (K : PySem.W.Frag) : Sp := fun vs H Q _ => ∃ (v : V) (n : String), vs = [v] ∧ Kd K H v n ∧ Q (.bl (decide (n = "int"))) H
def sp_is_word (K : PySem.W.Frag) : Sp := fun vs H Q _ => ∃ (v : V) (s : List Nat), vs = [v, vS s] ∧ ((∃ l : List Nat, v = vS l ∧ l.length ≤ 10000 ∧ ∀ H', Ex [] H H' → Q (.bl (isWord l s)) H') ∨ (∃ n, Kd K H v n ∧ n ≠ "str" ∧ Q (.bl false) H))
def sp_least_turning (K : PySem.W.Frag) : Sp := fun vs H Q _ => ∃ l : List Nat, vs = [vS l] ∧ l ≠ [] ∧ l.length ≤ 10000 ∧ ∀ H', Ex [] H H' → Q (vS (leastT l)) H'
def sp_Ring_init (K : PySem.W.Frag) : Sp := fun vs H Q _ => ∃ (x dx : Addr) (l : List Nat), vs = [.ref x, vS l] ∧ isWord l LET = true ∧ H x = some (.ins (He.ga K "Ring") dx []) ∧
  ∀ H', Ex [x] H H' → H' x = some (.ins (He.ga K "Ring") dx [("least", vS (leastT l))]) → Q .non H'
def sp_Ring_text (K : PySem.W.Frag) : Sp := fun vs H Q _ => ∃ (a : Addr) (l : List Nat), vs = [.ref a] ∧ RingAt K H a l ∧ Q (vS l) H
def sp_Ring_str (K : PySem.W.Frag) : Sp := fun vs H Q _ => ∃ (a : Addr) (l : List Nat), vs = [.ref a] ∧ RingAt K H a l ∧ Q (vS l) H
def sp_Ring_len (K : PySem.W.Frag) : Sp := fun vs H Q _ => ∃ (a : Addr) (l : List Nat), vs = [.ref a] ∧ RingAt K H a l ∧ l.length ≤ 10000 ∧ Q (.int l.length) H
def sp_Ring_eq (K : PySem.W.Frag) : Sp := fun vs H Q _ => ∃ (a : Addr) (v : V), vs = [.ref a, v] ∧ ∃ l, RingAt K H a l ∧ ((∃ b m, v = .ref b ∧ RingAt K H b m ∧ Q (.bl (decide (l = m))) H) ∨ (∃ n, Kd K H v n ∧ Q (.bl false) H))
def NewRing (K : PySem.W.Frag) (H : Hp) (Q : VK) (l : List Nat) : Prop := ∀ x H', H x = none → Ex [] H H' → RingAt K H' x (leastT l) → Q (.ref x) H'
def sp_Ring_mul (K : PySem.W.Frag) : Sp := fun vs H Q _ => ∃ (a : Addr) (l : List Nat) (k : Int), vs = [.ref a, .int k] ∧ RingAt K H a l ∧ isWord l LET = true ∧ 1 ≤ k ∧ (l.length : Int) * k ≤ 600 ∧ NewRing K H Q (rep k.toNat l)
def sp_Ring_add (K : PySem.W.Frag) : Sp := fun vs H Q _ => ∃ (a b : Addr) (l m : List Nat), vs = [.ref a, .ref b] ∧ RingAt K H a l ∧ RingAt K H b m ∧ isWord l LET = true ∧ isWord m LET = true ∧ l.length + m.length ≤ 600 ∧ NewRing K H Q (l ++ m)
def PoolAt (H : Hp) (a : Addr) : Prop := ∃ x y z : Int, H a = some (.lst [.int x, .int y, .int z])
def sp_law_cell (K : PySem.W.Frag) : Sp := fun vs H Q _ => ∃ (a : Addr) (ns : List Int) (k : Int), vs = [.ref a, .int k] ∧ SqL K H a (ns.map V.int) ∧ ns.length ≤ 63 ∧ 0 ≤ k ∧ k < 1000 ∧ ∀ c H', Ex [] H H' → Q (.int c) H'
def sp_law_pool (K : PySem.W.Frag) : Sp := fun vs H Q _ => ∃ c : Int, vs = [.int c] ∧ ∀ p H', H p = none → Ex [] H H' → PoolAt H' p → Q (.ref p) H'
def sp_law_draw (K : PySem.W.Frag) : Sp := fun vs H Q _ => ∃ (a : Addr) (m : Int), vs = [.ref a, .int m] ∧ 0 < m ∧ m < 1000000 ∧ PoolAt H a ∧ ∀ (r : Int) (H' : Hp), 0 ≤ r → r < m → Ex [a] H H' → PoolAt H' a → Q (.int r) H'
def sp_law_signs (K : PySem.W.Frag) : Sp := fun vs H Q _ => ∃ (a : Addr) (m : Int), vs = [.ref a, .int m] ∧ 0 < m ∧ m ≤ 4 ∧ PoolAt H a ∧
  ∀ (l : List Nat) (H' : Hp), l ≠ [] → (l.length : Int) ≤ m → (∀ c ∈ l, c ∈ LET) → l.Nodup → Ex [a] H H' → PoolAt H' a → Q (vS l) H'
def sp_law_word (K : PySem.W.Frag) : Sp := fun vs H Q _ => ∃ (a : Addr) (abc : List Nat) (m : Int), vs = [.ref a, vS abc, .int m] ∧ abc ≠ [] ∧ abc.length ≤ 1000 ∧ 0 < m ∧ m ≤ 1000 ∧ PoolAt H a ∧
  ∀ (l : List Nat) (H' : Hp), l ≠ [] → (l.length : Int) ≤ m → (∀ c ∈ l, c ∈ abc) → Ex [a] H H' → PoolAt H' a → Q (vS l) H'
def sp_law_turnings (K : PySem.W.Frag) : Sp := fun vs H Q _ => ∃ l : List Nat, vs = [vS l] ∧ l.length ≤ 10000 ∧ ∀ p H', H p = none → Ex [] H H' → H' p = some (.lst ((rots l).map vS)) → Q (.ref p) H'
theorem PoolAt.ex {H H' : Hp} {a : Addr} {m : List Addr} (e : Ex m H H') (n : a ∉ m) (h : PoolAt H a) : PoolAt H' a := by
  obtain ⟨x, y, z, h⟩ := h
  exact ⟨x, y, z, e a _ n h⟩
theorem PoolAt.there {H : Hp} {a : Addr} (h : PoolAt H a) : H a ≠ none := by
  obtain ⟨x, y, z, h⟩ := h
  rw [h]
  simp
theorem RingAt.ne {K : PySem.W.Frag} {H : Hp} {a b : Addr} {l : List Nat} (h : RingAt K H b l) (p : PoolAt H a) : b ≠ a := by
  obtain ⟨dx, h⟩ := h
  obtain ⟨x, y, z, p⟩ := p
  intro e
  subst e
  rw [h] at p
  cases p
theorem PoolAt.upd {H : Hp} {a D : Addr} {o : HO} (h : PoolAt H a) (n : D ∉ [a]) : PoolAt (L2.upd H D o) a := by
  obtain ⟨x, y, z, h⟩ := h
  exact ⟨x, y, z, by rw [upd_ne (fun e => n (by rw [e]; simp))]; exact h⟩
section
variable {K : PySem.W.Frag} {H : Hp} {Q : VK} {E : XK}
theorem u_draw {a : Addr} {m : Int} (h0 : 0 < m) (h1 : m < 1000000) (hp : PoolAt H a) (k : ∀ (r : Int) (H' : Hp), 0 ≤ r → r < m → Ex [a] H H' → PoolAt H' a → Q (.int r) H') : sp_law_draw K ([.ref a, .int m] ++ []) H Q E := ⟨a, m, rfl, h0, h1, hp, k⟩
theorem u_pool {c : Int} (k : ∀ p H', H p = none → Ex [] H H' → PoolAt H' p → Q (.ref p) H') : sp_law_pool K ([.int c] ++ []) H Q E := ⟨c, rfl, k⟩
theorem u_cell {a : Addr} {n : Int} {ns : List Int} (hs : SqL K H a (ns.map V.int)) (hl : ns.length ≤ 63) (h0 : 0 ≤ n) (h1 : n < 1000) (k : ∀ c H', Ex [] H H' → Q (.int c) H') : sp_law_cell K ([.ref a, .int n] ++ []) H Q E := ⟨a, ns, n, rfl, hs, hl, h0, h1, k⟩
theorem u_signs {a : Addr} {m : Int} (h0 : 0 < m) (h1 : m ≤ 4) (hp : PoolAt H a) (k : ∀ (l : List Nat) (H' : Hp), l ≠ [] → (l.length : Int) ≤ m → (∀ c ∈ l, c ∈ LET) → l.Nodup → Ex [a] H H' → PoolAt H' a → Q (vS l) H') : sp_law_signs K ([.ref a, .int m] ++ []) H Q E := ⟨a, m, rfl, h0, h1, hp, k⟩
theorem u_word {a : Addr} {abc : List Nat} {m : Int} (ha : abc ≠ []) (hl : abc.length ≤ 1000) (h0 : 0 < m) (h1 : m ≤ 1000) (hp : PoolAt H a) (k : ∀ (l : List Nat) (H' : Hp), l ≠ [] → (l.length : Int) ≤ m → (∀ c ∈ l, c ∈ abc) → Ex [a] H H' → PoolAt H' a → Q (vS l) H') : sp_law_word K ([.ref a, vS abc, .int m] ++ []) H Q E := ⟨a, abc, m, rfl, ha, hl, h0, h1, hp, k⟩
theorem u_turnings {l : List Nat} (hl : l.length ≤ 10000) (k : ∀ p H', H p = none → Ex [] H H' → H' p = some (.lst ((rots l).map vS)) → Q (.ref p) H') : sp_law_turnings K ([vS l] ++ []) H Q E := ⟨l, rfl, hl, k⟩
theorem Kd.int {i : Int} : Kd K H (.int i) "int" := ⟨.base (.int i), by decide +kernel⟩
theorem Kd.bl {b : Bool} : Kd K H (.bl b) "bool" := ⟨.base (.bl b), by decide +kernel⟩
theorem Kd.non : Kd K H .non "NoneType" := ⟨.base .non, by decide +kernel⟩
theorem Kd.str {l : List Nat} : Kd K H (vS l) "str" := ⟨.base (.str (S l)), by decide +kernel⟩
theorem Kd.tup {a : Addr} {xs : List V} (h : SqT K H a xs) : Kd K H (.ref a) "tuple" := by
  refine ⟨?_, by decide +kernel⟩
  rcases h with (h | ⟨o, h⟩) | ⟨o, its, n, h1, h2, _⟩
  · exact .base (.tup h)
  · exact .fTuple h
  · exact .kTuple h1 h2
theorem Kd.lst {a : Addr} {xs : List V} (h : H a = some (.lst xs)) : Kd K H (.ref a) "list" := ⟨.base (.lst h), by decide +kernel⟩
theorem u_is_integer {i : Int} (k : Q (.bl true) H) : sp_is_integer K ([.int i] ++ []) H Q E := ⟨.int i, "int", rfl, Kd.int, k⟩
theorem u_not_integer {v : V} {n : String} (h : Kd K H v n) (hn : n ≠ "int") (k : Q (.bl false) H) : sp_is_integer K ([v] ++ []) H Q E := ⟨v, n, rfl, h, by rw [decide_eq_false hn]; exact k⟩
theorem kitB_str {n : String} (h : n ∈ KD) (hn : n ≠ "str") : kitB n "str" = some false := by
  simp only [KD, List.mem_cons, List.not_mem_nil, or_false] at h
  rcases h with rfl | rfl | rfl | rfl | rfl | rfl | rfl
  all_goals first | exact absurd rfl hn | decide +kernel
theorem s_isiK {v : V} {n m : String} {b : Bool} (h : Kd K H v n) (hb : kitB n m = some b) (k : Q (.bl b) H) : rIsi K [v, .ty m] H Q := ⟨_, _, _, _, _, rfl, .ty _, h.1, kit_ty hb, k⟩
theorem u_is_word {l s : List Nat} (hl : l.length ≤ 10000) (k : ∀ H', Ex [] H H' → Q (.bl (isWord l s)) H') : sp_is_word K ([vS l] ++ [vS s]) H Q E := ⟨_, _, rfl, .inl ⟨l, rfl, hl, k⟩⟩
theorem u_not_word {v : V} {s : List Nat} {n : String} (h : Kd K H v n) (hn : n ≠ "str") (k : Q (.bl false) H) : sp_is_word K ([v] ++ [vS s]) H Q E := ⟨_, _, rfl, .inr ⟨n, h, hn, k⟩⟩
theorem u_least_turning {l : List Nat} (h0 : l ≠ []) (hl : l.length ≤ 10000) (k : ∀ H', Ex [] H H' → Q (vS (leastT l)) H') : sp_least_turning K ([vS l] ++ []) H Q E := ⟨l, rfl, h0, hl, k⟩
theorem u_fldRing {a : Addr} {l : List Nat} (F : RingK K) (h : RingAt K H a l) (k : Q (vS l) H) : FldG K "least" (.ref a) H Q := by
  obtain ⟨dx, h⟩ := h
  exact ⟨a, _, dx, _, _, rfl, h, F.cl, F.na, rfl, k⟩
theorem u_setRing {x dx : Addr} {y : V} {R : Hp → Prop} (F : RingK K) (h : H x = some (.ins (He.ga K "Ring") dx [])) (k : ∀ H2, Ex [x] H H2 → H2 x = some (.ins (He.ga K "Ring") dx [("least", y)]) → R H2) : SetG K "least" y (.ref x) H R :=
  ⟨x, _, dx, [], rfl, h, F.cl, F.na, by simp, k _ (Ex.put (by simp)) upd_same⟩
theorem u_textP {a : Addr} {l : List Nat} (h : RingAt K H a l) (k : Q (vS l) H) : PropG (He.ga K "Ring") (sp_Ring_text K) [] E (.ref a) H Q := by
  obtain ⟨dx, h'⟩ := id h
  exact ⟨a, dx, _, rfl, h', a, l, rfl, h, k⟩
theorem u_lenRing {a : Addr} {l : List Nat} (h : RingAt K H a l) (hl : l.length ≤ 10000) (k : Q (.int l.length) H) : rLenO (He.ga K "Ring") (sp_Ring_len K) E [.ref a] H Q := by
  obtain ⟨dx, h'⟩ := id h
  exact ⟨a, dx, _, rfl, h', a, l, rfl, h, hl, l.length, rfl, by omega, k⟩
theorem u_strRing {a : Addr} {l : List Nat} (h : RingAt K H a l) (k : Q (vS l) H) : rStrO (He.ga K "Ring") (sp_Ring_str K) E [.ref a] H Q := by
  obtain ⟨dx, h'⟩ := id h
  exact ⟨a, dx, _, rfl, h', a, l, rfl, h, _, rfl, k⟩
theorem u_eqRing {a b : Addr} {l m : List Nat} (h : RingAt K H a l) (h2 : RingAt K H b m) (k : Q (.bl (decide (l = m))) H) : rEqO (He.ga K "Ring") (sp_Ring_eq K) E (.ref a) (.ref b) H Q := by
  obtain ⟨dx, h'⟩ := id h
  obtain ⟨dy, h2'⟩ := id h2
  exact ⟨a, dx, _, b, dy, _, rfl, rfl, h', h2', a, _, rfl, l, h, .inl ⟨b, m, rfl, h2, _, rfl, k⟩⟩
theorem u_isiRing {a : Addr} {l : List Nat} (F : RingK K) (h : RingAt K H a l) (k : Q (.bl true) H) : rIsi K [.ref a, .ref (He.ga K "Ring")] H Q := by
  obtain ⟨dx, h'⟩ := id h
  exact ⟨_, _, _, _, _, rfl, .own _, F.ty _ _ _ _ h', F.me, k⟩
theorem u_makeRing {l : List Nat} (hw : isWord l LET = true) (k : NewRing K H Q l) : MakeG (He.ga K "Ring") (sp_Ring_init K) [] E [vS l] H Q := by
  intro x dx hx hdx ne
  refine ⟨x, dx, l, rfl, hw, upd_same, fun H' e h => ⟨rfl, k x H' hx ?_ ⟨dx, h⟩⟩⟩
  intro b o _ hb
  have nb : b ≠ x := ne_of_none hb hx
  refine e b o (by simpa using nb) ?_
  rw [upd_ne nb, upd_ne (ne_of_none hb hdx)]
  exact hb
theorem isWord_len {l s : List Nat} (h : isWord l s = true) : 1 ≤ l.length ∧ l.length ≤ 600 := of_decide_eq_true (Bool.and_eq_true_iff.mp h).1
theorem isWord_in {l s : List Nat} (h : isWord l s = true) : ∀ c ∈ l, c ∈ s := fun c hc => of_decide_eq_true (List.all_eq_true.mp (Bool.and_eq_true_iff.mp h).2 c hc)
theorem isWord_mk {l s : List Nat} (h1 : 1 ≤ l.length) (h2 : l.length ≤ 600) (h3 : ∀ c ∈ l, c ∈ s) : isWord l s = true := Bool.and_eq_true_iff.mpr ⟨decide_eq_true ⟨h1, h2⟩, List.all_eq_true.mpr fun c hc => decide_eq_true (h3 c hc)⟩
end
end WB
namespace WB
open PySem PySem.Spec PyProof.Rows L2
def dS (l : List Nat) : PyData := .str (S l)
def plain (l : List Nat) : Prop := ∀ c ∈ l, c < 55296
theorem strOk_S {l : List Nat} (h : plain l) : PyData.strOk (S l) = true := by
  unfold PyData.strOk
  rw [← Array.all_toList, S_cps, List.all_eq_true]
  intro c hc
  have := h c hc
  exact decide_eq_true (by omega)
theorem canLay_strs : ∀ {ls : List (List Nat)}, (∀ l ∈ ls, plain l) → PyData.canLayAll0 (ls.map dS) = true
  | [], _ => by simp [PyData.canLayAll0]
  | l :: ls, h => by
    rw [List.map_cons, PyData.canLayAll0]
    refine Bool.and_eq_true_iff.mpr ⟨?_, canLay_strs fun l hl => h l (List.mem_cons_of_mem _ hl)⟩
    unfold dS
    rw [PyData.canLay0]
    exact strOk_S (h l List.mem_cons_self)
theorem depth_strs : ∀ ls : List (List Nat), PyData.depthAll (ls.map dS) = 0
  | [] => by simp [PyData.depthAll]
  | l :: ls => by
    rw [List.map_cons, PyData.depthAll, depth_strs ls]
    simp [dS, PyData.depth]
theorem shaped_strs {ls : List (List Nat)} (h : ∀ l ∈ ls, plain l) : SeqAt.shaped (.list (ls.map dS)) = true := by
  unfold SeqAt.shaped
  refine Bool.and_eq_true_iff.mpr ⟨?_, decide_eq_true ?_⟩
  · rw [PyData.canLay0]; exact canLay_strs h
  · rw [PyData.depth, depth_strs]; omega
theorem dp_strs {K : PySem.W.Frag} {H : Hp} : ∀ ls : List (List Nat), DpAll K H (ls.map vS) (ls.map dS)
  | [] => .nil
  | l :: ls => .cons (.str _) (dp_strs ls)
end WB
namespace WB
open PySem PySem.Spec PyProof.Rows L2
section
variable {K : PySem.W.Frag} {H : Hp} {Q : VK}
def rInStr : R2 := fun x y H Q => ∃ i j, x = .str i ∧ y = .str j ∧ Q (.bl (!(Builtin.Str.occurrences j i 0 j.length 1).isEmpty)) H
def occ (l m : List Nat) : Bool := decide (∃ i, i ≤ m.length ∧ (m.drop i).take l.length = l)
theorem occ_of {l m : List Nat} : (!(Builtin.Str.occurrences (S m) (S l) 0 (S m).length 1).isEmpty) = occ l m := by
  rw [Bool.eq_iff_iff, PySem.StrLaws.found_iff]
  unfold occ
  rw [decide_eq_true_iff]
  have hx : ∀ i, (i + (S l).length ≤ (S m).length ∧ Builtin.Str.subAt (S m) (S l) i = true) ↔ (i ≤ m.length ∧ (m.drop i).take l.length = l) := by
    intro i
    rw [S_len, S_len]
    unfold Builtin.Str.subAt
    rw [beq_iff_eq, ← Array.toList_inj, S_len]
    have e1 : ((S m).cps.extract i (i + l.length)).toList = (m.drop i).take l.length := by
      rw [Array.toList_extract, S_cps]
      simp [List.extract]
    rw [e1, S_cps]
    constructor
    · rintro ⟨h1, h2⟩
      exact ⟨by omega, h2⟩
    · rintro ⟨h1, h2⟩
      refine ⟨?_, h2⟩
      have := congrArg List.length h2
      rw [List.length_take, List.length_drop] at this
      omega
  constructor
  · rintro ⟨i, h⟩; exact ⟨i, (hx i).mp h⟩
  · rintro ⟨i, h⟩; exact ⟨i, (hx i).mpr h⟩
theorem s_inStr {l m : List Nat} (k : Q (.bl (occ l m)) H) : rInStr (vS l) (vS m) H Q := ⟨_, _, rfl, rfl, by rw [occ_of]; exact k⟩
theorem s_bm {te : TE} {ta : TA} {T : String} {r : V → List V → Hp → VK → Prop} {σ : L2.St} (k : te σ H fun x H1 => tyV K T x H1 ∧ ta σ H1 fun xs H2 => r x xs H2 Q) : tBM K T r te ta σ H Q := k
theorem s_tyL {a : Addr} {xs : List V} {B : Prop} (h : H a = some (.lst xs)) (k : B) : tyV K "list" (.ref a) H ∧ B := ⟨.inl ⟨rfl, xs, SqL.of h⟩, k⟩
end
end WB
namespace WB
open PySem PySem.Spec PyProof.Rows L2
abbrev Fr' := PySem.W.Frag
abbrev Fx := PySem.W.Frag → Bool
def obsW (fa : List He.Fa) (fn : List He5.DefA) (ex : List Fx) (K : Fr') : He.AlD := ((fa.all fun f => f.ok K) && (ex.all (fun f => f K) && fn.all fun d => d.ok K), fn.map fun d => He5.fnA K (d.at_ K))
def SaysW (fa : List He.Fa) (fn : List He5.DefA) (ex : List Fx) (K : Fr') : Prop := obsW fa fn ex K = He5.valA fn
def frN {α : Type} (n : Nat) (k : Nat → α) : α := Nat.rec (k 0) (fun m _ => k (m + 1)) n
def addB {α : Type} : List Addr → Nat → List Addr → (Nat → List Addr → α) → α
  | [], seen, new, k => k seen new
  | a :: r, seen, new, k => match Nat.beq (Nat.land (Nat.shiftRight seen a) 1) 1 with
    | true => addB r seen new k
    | false => frN (Nat.lor seen (Nat.shiftLeft 1 a)) fun seen' => addB r seen' (a :: new) k
def bfsB (g : Addr → Option Obj) : Nat → Nat → List Addr → List Addr → List Addr
  | 0, _, _, acc => acc
  | n + 1, seen, front, acc => addB (front.flatMap fun a => match g a with
    | some o => He.refsD o
    | none => []) seen [] fun seen' new => bfsB g n seen' new (new ++ acc)
def asB (g : Addr → Option Obj) (n : Nat) : List Addr := bfsB g n (Nat.shiftLeft 1 mainGlobals) [mainGlobals] [mainGlobals] ++ [cStatics]
def fdOf (K : Fr') (f : Addr) : FuncData := match K.lookup f with
  | some ⟨_, _, .func fd, _⟩ => fd
  | _ => PySem.W.fnOf "" "" { posonlyargs := [], args := [], vararg := none, kwonlyargs := [], kw_defaults := [], kwarg := none, defaults := [] } [] { kind := .function, names := [], isGenerator := false, isCoroutine := false } .none .none .none .none none .none .none
section
variable {fa : List He.Fa} {fn : List He5.DefA} {ex : List Fx} {K : Fr'}
theorem SaysW.b (c : SaysW fa fn ex K) : (fa.all fun f => f.ok K) = true ∧ ex.all (fun f => f K) = true ∧ (fn.all fun d => d.ok K) = true := by
  have h := congrArg (fun z : He.AlD => z.1) c
  obtain ⟨h1, h2⟩ := He.ba (show ((fa.all fun f => f.ok K) && (ex.all (fun f => f K) && fn.all fun d => d.ok K)) = true from h)
  obtain ⟨h2, h3⟩ := He.ba h2
  exact ⟨h1, h2, h3⟩
theorem SaysW.fact (c : SaysW fa fn ex K) (i : Nat) {f : He.Fa} (h : fa[i]? = some f := by rfl) : f.ok K = true := List.all_eq_true.mp c.b.1 f (List.mem_of_getElem? h)
theorem SaysW.more (c : SaysW fa fn ex K) (i : Nat) {f : Fx} (h : ex[i]? = some f := by rfl) : f K = true := List.all_eq_true.mp c.b.2.1 f (List.mem_of_getElem? h)
theorem SaysW.def_ (c : SaysW fa fn ex K) (i : Nat) {d : He5.DefA} (h : fn[i]? = some d := by rfl) : FunD K d.name d.qual d.params d.body d.scope (d.dvs K) (d.kws K) (d.at_ K) (fdOf K (d.at_ K)) := by
  have e : fn.map (fun d => He5.fnA K (d.at_ K)) = fn.map He5.DefA.val := congrArg (fun z : He.AlD => z.2) c
  have e2 : (fn.map fun d => He5.fnA K (d.at_ K))[i]? = (fn.map He5.DefA.val)[i]? := by rw [e]
  rw [List.getElem?_map, List.getElem?_map, h] at e2
  obtain ⟨fd, F⟩ := He5.DefA.funD (Option.some.inj e2) (List.all_eq_true.mp c.b.2.2 d (List.mem_of_getElem? h))
  obtain ⟨oc, od, dV, kV, doc, pm, an, cdv, ct, osl, e3, lk, r⟩ := F.ex
  have : fdOf K (d.at_ K) = fd := by
    unfold fdOf
    rw [lk]
  rw [this]
  exact F
end
def specB (x m : Str) : Fx := fun K => He.eqO (PySem.W.findIn K (.ref (He.ga K x)) m) (some (some (.ref (He.ma K (He.ga K x) m)))) && PySem.W.isFn K (.ref (He.ma K (He.ga K x) m))
theorem specB_ok {K : Fr'} {x m : Str} (h : specB x m K = true) : Spec1 K (He.ga K x) m (He.ma K (He.ga K x) m) := by
  obtain ⟨h1, h2⟩ := He.ba h
  exact ⟨He.eqO_ok h1, h2⟩
def propB (x f : Str) : Fx := fun K => He.eqO (PySem.W.findIn K (.ref (He.ga K x)) f) (some (some (.ref (He.ma K (He.ga K x) f)))) && (decide (PySem.W.specialIn K (.ref (He.ma K (He.ga K x) f)) "__get__" = some (some (.builtin "property.__get__"))) && (decide (PySem.W.takesIn K (.ref (He.ma K (He.ga K x) f)) = some true) && (match PySem.W.recIn K (He.ma K (He.ga K x) f) "property" with
  | some (.ref _ :: _) => true
  | _ => false)))
theorem propB_ok {K : Fr'} {x f : Str} (h : propB x f K = true) : PropOf K (He.ga K x) f (He.ma K (He.ga K x) f) (He5.wf K (He.ga K x) "property" f) := by
  obtain ⟨h1, h⟩ := He.ba h
  obtain ⟨h2, h⟩ := He.ba h
  obtain ⟨h3, h4⟩ := He.ba h
  refine ⟨He.eqO_ok h1, of_decide_eq_true h2, of_decide_eq_true h3, ?_⟩
  unfold He5.wf
  split at h4
  · rename_i f r e
    exact ⟨r, by rw [e]⟩
  · cases h4
def selfB (x : Str) : Fx := fun K => PySem.W.selfFirst K (He.ga K x)
def binB (x : Str) (nm T : String) : Fx := fun K => specB x (PySem.dunder nm) K && (selfB x K && (He.eqO (PySem.W.findIn K (.ref (He.ga K x)) (dunderR nm)) (some none) && ((PySem.W.findIn K (.type T) (PySem.dunder nm)).isSome && ((PySem.W.findIn K (.type T) (dunderR nm)).isSome && decide (PySem.W.subIn K (.type T) (.ref (He.ga K x)) = some false)))))
theorem binB_ok {K : Fr'} {x : Str} {nm T : String} (h : binB x nm T K = true) : BinT K (He.ga K x) nm T (He.ma K (He.ga K x) (PySem.dunder nm)) := by
  obtain ⟨h1, h⟩ := He.ba h
  obtain ⟨h2, h⟩ := He.ba h
  obtain ⟨h3, h⟩ := He.ba h
  obtain ⟨h4, h⟩ := He.ba h
  obtain ⟨h5, h6⟩ := He.ba h
  exact ⟨specB_ok h1, h2, He.eqO_ok h3, Option.isSome_iff_exists.mp h4, Option.isSome_iff_exists.mp h5, of_decide_eq_true h6⟩
def insB (x : Str) : Fx := fun K => He.eqO (PySem.W.findIn K (.ref (He.ga K x)) "__class__") (some (some (.builtin "object.__class__"))) && (He.eqO (PySem.W.specialIn K (.builtin "object.__class__") "__get__") (some (some (.builtin "getset_descriptor.__get__"))) && (decide (PySem.W.takesIn K (.builtin "object.__class__") = some true) && (decide (PySem.W.mroIn K (He.ga K x) (.type "object") = some true) && decide (PySem.W.kitOne K (.ref (He.ga K x)) (.ref (He.ga K x)) = some true))))
theorem insB_ok {K : Fr'} {x : Str} (c : Cls K (He.ga K x)) (h : insB x K = true) : (∀ (H : Hp) (a dx : Addr) (fs : List (Str × V)), H a = some (.ins (He.ga K x) dx fs) → TyX K H (.ref a) (.ref (He.ga K x))) ∧ PySem.W.kitOne K (.ref (He.ga K x)) (.ref (He.ga K x)) = some true := by
  obtain ⟨h1, h⟩ := He.ba h
  obtain ⟨h2, h⟩ := He.ba h
  obtain ⟨h3, h⟩ := He.ba h
  obtain ⟨h4, h5⟩ := He.ba h
  exact ⟨fun H a dx fs e => .base (.ins e c (He.eqO_ok h1) (He.eqO_ok h2) (of_decide_eq_true h3) (of_decide_eq_true h4)), of_decide_eq_true h5⟩
def noB (x : Str) : Fx := fun K => KD.all fun n => decide (PySem.W.kitOne K (.type n) (.ref (He.ga K x)) = some false)
theorem noB_ok {K : Fr'} {x : Str} (h : noB x K = true) : ∀ n ∈ KD, PySem.W.kitOne K (.type n) (.ref (He.ga K x)) = some false := fun n hn => of_decide_eq_true (List.all_eq_true.mp h n hn)
end WB
namespace L2
open PySem
theorem Room.u1 {k : Nat} {A : Around} (r : Room k A) : A.units + 1 < cLine := by have := r.un; omega
end L2
namespace WB
open PySem PySem.Spec PyProof.Rows L2
abbrev Cl := Value × Option Nat × (Addr → Value → Option Addr → TS)
def wList (K : PySem.W.Frag) (D : Ends) : List Cl → WX
  | [] => fun _ _ _ _ => False
  | (c, some i, t) :: r => wAs K c i t (wList K D r) D
  | (c, none, t) :: r => fun cls d σ H => ∃ b, PySem.W.exmOne K cls c = some b ∧ (b = true → ∀ a, H a = none → t a cls d D σ H) ∧ (b = false → wList K D r cls d σ H)
inductive ClsOk (X : Cx) : List ExceptHandler → List Cl → Prop
  | none {hs : List ExceptHandler} : ClsOk X hs []
  | more {x n : Str} {c : Value} {i : Nat} {t : Addr → Value → Option Addr → TS} {b : Stmt} {bs : List Stmt} {p p' : Pos} {hs : List ExceptHandler} {l : List Cl} (hi : X.N[i]? = some n) (hk : X.env.kindOf n = some .local) (hx : Names X x c)
      (hb : ∀ (a : Addr) (o : Obj) (cl : Value) (d : Option Addr) (pn : List (Addr × Obj)), L2N.Zn cl d o → (∃ fv, o.data = .fields fv) → PSs (X.suite a ((a, o) :: pn)) (b :: bs) (t a cl d)) (r : ClsOk X hs l) :
      ClsOk X (.ExceptHandler (some (.Name x p)) (some n) (b :: bs) p' :: hs) ((c, some i, t) :: l)
  | bare {x : Str} {c : Value} {t : Addr → Value → Option Addr → TS} {b : Stmt} {bs : List Stmt} {p p' : Pos} {hs : List ExceptHandler} {l : List Cl} (hx : Names X x c)
      (hb : ∀ (a : Addr) (o : Obj) (cl : Value) (d : Option Addr) (pn : List (Addr × Obj)), L2N.Zn cl d o → (∃ fv, o.data = .fields fv) → PSs (X.suite a ((a, o) :: pn)) (b :: bs) (t a cl d)) (r : ClsOk X hs l) :
      ClsOk X (.ExceptHandler (some (.Name x p)) none (b :: bs) p' :: hs) ((c, none, t) :: l)
section
variable {X : Cx} {body : List Stmt} {h1 : ExceptHandler} {hs : List ExceptHandler} {l : List Cl} {pos : Pos} {tb : WX → TS}
theorem ps_tryL (hst : X.stack = X.env :: X.outer) (hfr : X.env.frame = some X.env.locals) (hnd : X.N.Nodup)
    (hbody : ∀ (W : WX) (pn : List (Addr × Obj)) (xe : Value → Shared → Prop), L2N.Takes (X.tr pn xe) W → PassesOwn (model X.prog X.w) X.A X.env xe → PSs (X.tr pn xe) body (tb W)) (hcl : ClsOk X (h1 :: hs) l) :
    PS X (.Try body (h1 :: hs) [] [] pos) (fun D σ H => tb (wList X.K D l) D σ H) := by
  refine ⟨fun pins s σ H D I hh => ?_⟩
  have good := I.ok
  have frm : X.A.frames = some (X.env :: X.outer) := by rw [good.frames, hst]
  refine wpAny_Try_except ?_
  refine wpAny_mono ((hbody (wList X.K D l) (X.pn ++ pins) (fun e t1 => wpAny (model X.prog X.w) X.A (noteFrame e X.env) (fun _ t2 => wpAny (model X.prog X.w) X.A (setFlight e none) (fun _ t3 =>
    wpAny (model X.prog X.w) X.A (handleBy e X.env (h1 :: hs)) (SP X pins D) X.xe t3) X.xe t2) X.xe t1) (fun u s' air => ?_) PassesOwn.looking).run [] s σ H D (I.toTry _) hh) (fun fl s1 out => ?_) (fun _ _ z => z)
  · obtain ⟨a, B, sI, pins', σ', H', cl, d, rfl, J', nb, up, sky, na, os, ag, wish⟩ := air
    have J : Inv X pins σ' H' sI := J'.ofTry good
    have sky2 : Sky B (X.env :: X.outer) a (L2N.Zn cl d) X.env.locals s'.heap := by rw [← hst]; exact sky
    show wpAny (model X.prog X.w) X.A (noteFrame (.ref a) X.env) _ _ _
    refine L2N.Sky.land L2N.Zn.steady frm hfr sky2 fun g3 f3 u3 => ?_
    have K3 : Inv X pins σ' H' { s' with heap := g3 } := J.landed nb f3.1 (up.trans u3) os ag
    obtain ⟨o3, v3, q3, z3, d3⟩ := f3.there
    have away : a ∉ frs (X.env :: X.outer) := fun hm => by
      obtain ⟨_, o', e', no⟩ := f3.2.2.1.mem hm
      rw [q3] at e'
      cases e'
      exact no _ d3
    have nL : a ≠ X.env.locals := fun z => away (List.mem_filterMap.mpr ⟨X.env, List.mem_cons_self, by rw [hfr, z]⟩)
    have nF : a ∉ X.fs := fun hm => by
      obtain ⟨e, he, q⟩ := List.mem_filterMap.mp hm
      exact away (List.mem_filterMap.mpr ⟨e, List.mem_cons_of_mem _ he, q⟩)
    have S3 := K3.suite q3 d3 na nL nF
    have walk : ∀ {hs' : List ExceptHandler} {l' : List Cl}, ClsOk X hs' l' → wList X.K D l' cl d σ' H' → wpAny (model X.prog X.w) X.A (handleBy (.ref a) X.env hs') (SP X pins D) X.xe { s' with heap := g3 } := by
      intro hs' l' ok'
      induction ok' with
      | none => exact fun z => False.elim z
      | @more x n c i t b bs p p' hs2 l2 hi hk hx hb r ih =>
        intro wish2
        obtain ⟨yes, hex, w1, w0⟩ := wish2
        refine wpAny_handleBy_cons (codeAny_handlers_test ?_) (by intro q; cases q)
        have kind : PySem.W.Looks (model X.prog X.w) g3 (typeOf (.ref a)) cl := fun A Q E s k q => wpAny_typeOf_ref (k _ _ q3) (by rw [z3.1]; exact q)
        have look := PySem.W.exm_one (M := model X.prog X.w) (K3.kIn) kind hex
        have test : ∀ {Q : Value → Shared → Prop} {E : Value → Shared → Prop}, Q c { s' with heap := g3 } → wpAny (model X.prog X.w) (X.A.mark (some (.ref a))) (eval (.Name x p) X.env) Q E { s' with heap := g3 } := fun {Q E} q => by
          obtain ⟨y1, y2, y3 | ⟨y3, y4, y5⟩⟩ := hx
          · exact ld_glob (X := X.suite a ((a, o3) :: (X.pn ++ pins))) S3 y1 y3 q y2
          · exact ld_blt (X := X.suite a ((a, o3) :: (X.pn ++ pins))) S3 y1 y3 y4 q y5 y2
        refine test (look.here ?_)
        cases yes with
        | false =>
          show wpAny _ X.A (handleBy (.ref a) X.env hs2) _ _ _
          exact ih (w0 rfl)
        | true =>
          refine codeAny_handlers_suite_as ?_
          refine HandSPX.lands_againZ f3 fun g4 f4 u4 => ?_
          have K4 : Inv X pins σ' H' { s' with heap := g4 } := J.landed nb f4.1 ((up.trans u3).trans u4) os ag
          obtain ⟨o4, v4, q4, z4, d4⟩ := f4.there
          have S4 := K4.suite q4 d4 na nL nF
          refine store_ok (X := X.suite a ((a, o4) :: (X.pn ++ pins))) (v := .ref a) S4 hnd hi (.inl hk) rfl (fun s5 S5 => ?_) (.inr hk)
          refine wpAny_mono ((hb a o4 cl d (X.pn ++ pins) z4 ⟨_, d4⟩).run [] s5 _ H' _ S5 (w1 rfl a na)) (fun fl s6 out => ?_) (fun _ _ z => False.elim z)
          have shut : ∀ {σ6 : L2.St} {H6 : Hp} {Q : Shared → Prop}, Inv (X.suite a ((a, o4) :: (X.pn ++ pins))) [] σ6 H6 s6 → (∀ s7, Inv X pins (σ6.set i none) H6 s7 → Q s7) →
              wpAny (model X.prog X.w) X.A (do bindName X.env n .none; unbindBehindTheSuite X.env n p') (fun _ s7 => Q s7) X.xe s6 := fun {σ6 H6 Q} S6 q => gone_ok (S6.unsuite good) hnd hi hk q
          cases fl with
          | next =>
            obtain ⟨σ6, H6, S6, q6⟩ := out
            exact shut S6 fun s7 J7 => ⟨_, _, J7, q6⟩
          | brk =>
            obtain ⟨σ6, H6, S6, q6⟩ := out
            exact shut S6 fun s7 J7 => ⟨_, _, J7, q6⟩
          | cont =>
            obtain ⟨σ6, H6, S6, q6⟩ := out
            exact shut S6 fun s7 J7 => ⟨_, _, J7, q6⟩
          | ret u =>
            obtain ⟨v6, σ6, H6, S6, r6, q6⟩ := out
            exact shut S6 fun s7 J7 => ⟨_, _, _, J7, r6, q6⟩
      | @bare x c t b bs p p' hs2 l2 hx hb r ih =>
        intro wish2
        obtain ⟨yes, hex, w1, w0⟩ := wish2
        refine wpAny_handleBy_cons (codeAny_handlers_test ?_) (by intro q; cases q)
        have kind : PySem.W.Looks (model X.prog X.w) g3 (typeOf (.ref a)) cl := fun A Q E s k q => wpAny_typeOf_ref (k _ _ q3) (by rw [z3.1]; exact q)
        have look := PySem.W.exm_one (M := model X.prog X.w) (K3.kIn) kind hex
        have test : ∀ {Q : Value → Shared → Prop} {E : Value → Shared → Prop}, Q c { s' with heap := g3 } → wpAny (model X.prog X.w) (X.A.mark (some (.ref a))) (eval (.Name x p) X.env) Q E { s' with heap := g3 } := fun {Q E} q => by
          obtain ⟨y1, y2, y3 | ⟨y3, y4, y5⟩⟩ := hx
          · exact ld_glob (X := X.suite a ((a, o3) :: (X.pn ++ pins))) S3 y1 y3 q y2
          · exact ld_blt (X := X.suite a ((a, o3) :: (X.pn ++ pins))) S3 y1 y3 y4 q y5 y2
        refine test (look.here ?_)
        cases yes with
        | false =>
          show wpAny _ X.A (handleBy (.ref a) X.env hs2) _ _ _
          exact ih (w0 rfl)
        | true =>
          refine codeAny_handlers_suite ?_
          refine HandSPX.lands_againZ f3 fun g4 f4 u4 => ?_
          have K4 : Inv X pins σ' H' { s' with heap := g4 } := J.landed nb f4.1 ((up.trans u3).trans u4) os ag
          obtain ⟨o4, v4, q4, z4, d4⟩ := f4.there
          have S4 := K4.suite q4 d4 na nL nF
          refine wpAny_mono ((hb a o4 cl d (X.pn ++ pins) z4 ⟨_, d4⟩).run [] _ _ H' _ S4 (w1 rfl a na)) (fun fl s6 out => ?_) (fun _ _ z => False.elim z)
          cases fl with
          | next =>
            obtain ⟨σ6, H6, S6, q6⟩ := out
            exact ⟨_, _, S6.unsuite good, q6⟩
          | brk =>
            obtain ⟨σ6, H6, S6, q6⟩ := out
            exact ⟨_, _, S6.unsuite good, q6⟩
          | cont =>
            obtain ⟨σ6, H6, S6, q6⟩ := out
            exact ⟨_, _, S6.unsuite good, q6⟩
          | ret u =>
            obtain ⟨v6, σ6, H6, S6, r6, q6⟩ := out
            exact ⟨_, _, _, S6.unsuite good, r6, q6⟩
    exact walk hcl wish
  · cases fl with
    | next =>
      obtain ⟨σ', H', J', q⟩ := out
      exact wpAny_execs_nil ⟨σ', H', J'.ofTry good, q⟩
    | brk =>
      obtain ⟨σ', H', J', q⟩ := out
      exact ⟨σ', H', J'.ofTry good, q⟩
    | cont =>
      obtain ⟨σ', H', J', q⟩ := out
      exact ⟨σ', H', J'.ofTry good, q⟩
    | ret u =>
      obtain ⟨v, σ', H', J', r, q⟩ := out
      exact ⟨v, σ', H', J'.ofTry good, r, q⟩
end
end WB
namespace WB
open PySem PySem.Spec PyProof.Rows L2
section
variable {P : Program} {w : World} {K : PySem.W.Frag} {mg : Str → Option Value} {base : Heap} {k : Nat} {f : Addr} {fd : FuncData} {ps : List Str} {sp sp2 : Sp}
theorem FnOk_lift (F : FnOk P w K mg base CX0 k f fd ps sp) : FnOk P w K mg base (L2N.CX P w) k f fd ps sp := by
  refine ⟨F.len, fun A outer s H args us vs Q E hr e0 hb r h => codeAny_mono (F.run A outer s H args us vs Q E hr e0 hb r h) fun r s' hq => ?_⟩
  cases r with
  | error e => exact (show False from hq).elim
  | ok fl =>
    cases fl with
    | ret u => exact hq
    | next => exact False.elim hq
    | brk => exact False.elim hq
    | cont => exact False.elim hq
theorem FnOk_or {CX : CXT} {j : Nat} (F : FnOk P w K mg base CX k f fd ps sp) (G : FnOk P w K mg base CX j f fd ps sp2) (hj : j ≤ k) : FnOk P w K mg base CX k f fd ps (fun vs H Q E => sp vs H Q E ∨ sp2 vs H Q E) := by
  refine ⟨fun vs H Q E h => h.elim (F.len _ _ _ _) (G.len _ _ _ _), fun A outer s H args us vs Q E hr e0 hb r h => ?_⟩
  rcases h with h | h
  · exact F.run A outer s H args us vs Q E hr e0 hb r h
  · exact G.run A outer s H args us vs Q E (hr.mono hj) e0 hb r h
end
def oexB (x : Str) : PySem.W.Frag → Bool := fun K => (match K.lookup (He.ga K x) with
  | some ⟨.type "type", _, .cls cd, sl⟩ => (match cd.mro, sl.toList with
    | .ref C' :: bm, [_, _, _, _, some (.builtin n), _] => C' == He.ga K x && n == "ValueError.__new__" && !cd.hasDel && cd.hasDict && PySem.HandSPX.refsVE bm
    | _, _ => false)
  | _ => false) && (He.eqO (PySem.W.findIn K (.ref (He.ga K x)) "__setattr__") (some (some (.builtin "object.__setattr__"))) && (decide (PySem.W.subIn K (.ref (He.ga K x)) (.type "BaseException") = some true) && (decide (PySem.W.typeIn K (.ref (He.ga K x)) = some (.type "type")) && PySem.W.keepIn K (.ref (He.ga K x)))))
theorem oexB_ok {K : PySem.W.Frag} {x : Str} (h : oexB x K = true) : OexC K (He.ga K x) := by
  obtain ⟨q, h⟩ := He.ba h
  obtain ⟨h1, h⟩ := He.ba h
  obtain ⟨h2, h⟩ := He.ba h
  obtain ⟨h3, h4⟩ := He.ba h
  refine ⟨?_, He.eqO_ok h1, of_decide_eq_true h2, of_decide_eq_true h3, h4⟩
  split at q
  · rename_i dd cd sl ho
    split at q
    · rename_i C' bm k0 k1 k2 k3 n k5 hm hs
      simp only [Bool.and_eq_true, beq_iff_eq, Bool.not_eq_true'] at q
      obtain ⟨⟨⟨⟨e1, e2⟩, hdel⟩, hdc⟩, ht⟩ := q
      obtain ⟨nm, bs, mro, ns, qn, hd, sn, sub, ab, col, del⟩ := cd
      dsimp only at hm hdel hdc
      subst hm hdel hdc e2
      have hsl : sl = #[k0, k1, k2, k3, some (.builtin "ValueError.__new__"), k5] := by
        obtain ⟨l⟩ := sl
        simp only at hs
        rw [hs]
      subst hsl
      rw [e1] at ho
      exact ⟨_, _, _, _, _, _, _, _, _, _, _, _, _, _, _, ho, ht⟩
    · cases q
  · cases q
section
variable {X : Cx} {e : Expr} {es : List Expr} {ta : TA} {p pos : Pos}
theorem pmk_oexN {CX : CXT} {x : Str} {C fI : Addr} {k : Nat} {fd : FuncData} {ps : List Str} {sp : Sp} (T : OexC X.K C) (iC : PySem.W.findIn X.K (.ref C) "__init__" = some (some (.ref fI))) (tI : PySem.W.typeIn X.K (.ref fI) = some (.type "function"))
    (F1 : FnOk X.prog X.w X.K X.mg X.base CX k fI fd ps sp) (hr : Room (k + 1) X.A) (hb : Binds X.K fd ps []) (hx : Passes CX X (fun _ _ _ => False)) (hg : Gl X x) (hm : X.mg x = some (.ref C)) (ha : PA X (e :: es) ta)
    (hdb : (x == ("__debug__" : Str)) = false := by decide) (he : starEach (e :: es) X.env = (false, eval e X.env) :: starEach es X.env := by rfl) (hpl : (backTo pos (starEach es X.env)).any (·.1) = false := by rfl) :
    L2N.PMk X (.Call (.Name x p) (e :: es) [] pos) (tMkO C sp [] ta) := by
  intro pins s σ H Q I h
  obtain ⟨nm, q, N, bs, bm, sn, sub, ab, col, dd, k0, k1, k2, k3, k5, hC, hbm⟩ := T.cls
  refine wpAny_Call_Name_kw (ld_glob I hg hm ?_ hdb)
  refine PySem.W.callWith_K (h₀ := X.base) I.ok.mod.kin T.kC (thn (ha.run pos pins s σ H _ I h) fun us s1 ⟨vs, H1, I1, r1, hz, q1⟩ => ⟨I1.kIn, ?_⟩) he hpl
  show wpAny _ _ (call (.ref C) us) _ _ _
  obtain ⟨hp, g, dr, tk, os⟩ := s1
  have big : hp.objs.size ≤ hp.objs.size + 1 := Nat.le_succ _
  have start := q1 (hp.objs.size + 1) (I1.hok.fresh big)
  rw [List.append_nil] at start
  have kk : ∀ b o, hp.get? b = some o → ((hp.push (PySem.W.kdv_tup us)).push (PySem.HandSPX.excO C hp.objs.size)).get? b = some o := fun b o e => Heap.get?_push_of_some _ (Heap.get?_push_of_some _ e)
  have hget : ((hp.push (PySem.W.kdv_tup us)).push (PySem.HandSPX.excO C hp.objs.size)).get? (hp.objs.size + 1) = some (PySem.HandSPX.excO C hp.objs.size) := by heap_get
  have I2 := I1.laid (t' := tk) (a := hp.objs.size + 1) (o := exo (hp.objs.size + 1) C none) (h' := (hp.push (PySem.W.kdv_tup us)).push (PySem.HandSPX.excO C hp.objs.size)) kk big (exo_ok hget)
  have r2 : Vals (V.ref (hp.objs.size + 1) :: vs) (Value.ref (hp.objs.size + 1) :: us) := .cons rfl r1
  have hl : (Value.ref (hp.objs.size + 1) :: us ++ []).length = ps.length := by
    have e := r2.length
    rw [F1.len _ _ _ _ start] at e
    rw [List.append_nil]
    exact e.symm
  have hus : us.length ≤ sizeLine := by
    rw [← Paired.length r1, sizeLine_eq]
    omega
  have hbb := hb _ (Value.ref (hp.objs.size + 1) :: us) I2.kIn hl
  rw [List.append_nil] at hbb
  refine wpAny_call (PySem.HandSPX.call_own F.excBase_ValueError (fun Y => PySem.HandSPX.refsVE_contains Y bm hbm) (I1.kIn _ _ hC) (PySem.W.looks_findIn I1.kIn iC) (fun self => PySem.W.bind_fn I1.kIn self tI) hus
    (codeAny_mono (F1.run _ X.stack _ _ ⟨Value.ref (hp.objs.size + 1) :: us, []⟩ (Value.ref (hp.objs.size + 1) :: us) _ _ (fun _ _ _ => False) (hr.make C us []) (I2.env0.make C us []) hbb r2 start) fun r s' hq' => ?_))
  cases r with
  | error er => exact hx pins σ _ _ er s' I2 hq'
  | ok fl =>
    cases fl with
    | ret u =>
      obtain ⟨v, H2, os2, bare2, un2, hok2, rv, ev, d, fs, ea, ed, hd1, q2⟩ := hq'
      subst ev
      obtain ⟨h2, g2, d2, t2, os'⟩ := s'
      obtain ⟨t0, G, J, kG, ge, hoe, na⟩ := mk_end0 (d2 := d2) (t2 := t2) I1 big kk un2 hok2 os2 bare2 ea ed hd1
      exact ⟨rv, _, _, _, ⟨G, g2, d2, t2, os'⟩, _, .ref C, some d, rfl, J, kG, ge, hoe, ⟨rfl, rfl, fun vs e => by cases e; rfl⟩, rfl, rfl, na, rfl, bare2, raises_own T.exC T.tyC, q2⟩
    | next => exact False.elim hq'
    | brk => exact False.elim hq'
    | cont => exact False.elim hq'
end
def sp_exc (K : PySem.W.Frag) (C : Addr) (f : Str) : Sp := fun vs H Q _ => ∃ (a : Addr) (v : V), vs = [.ref a, v] ∧ OexC K C ∧ PySem.W.findIn K (.ref C) f = some none ∧ H a = some (exo a C none) ∧
  ∀ dx, H dx = none → dx ≠ a → Q .non (upd (upd H dx (exd dx [(f, v)])) a (exo a C (some dx)))
def t_exc (K : PySem.W.Frag) (f : Str) : TS := tOst K f (tVar 0) (tVar 1)
theorem pure_exc {K : PySem.W.Frag} {C : Addr} {f : Str} {vs : List V} {H : Hp} {Q : VK} {E : XK} {N : List Str} (hN : N.length = 2) (h : sp_exc K C f vs H Q E) : t_exc K f { nx := fun _ H' => Q .non H', rt := Q } (start N vs) H := by
  obtain ⟨a, v, rfl, T, hno, ha, k⟩ := h
  obtain ⟨x, y, rfl⟩ : ∃ x y, N = [x, y] := by
    match N, hN with
    | [x, y], _ => exact ⟨x, y, rfl⟩
  exact ⟨v, rfl, .ref a, rfl, a, C, rfl, T, hno, .inl ⟨ha, fun dx h1 h2 => k dx h1 h2⟩⟩
def tRs (K : PySem.W.Frag) (C : Addr) (f : Str) (E : XK) (ta : TA) : TS := fun _ σ H => tMkO C (sp_exc K C f) [] ta σ H E
theorem upd_del {H : Hp} {a d : Addr} {o p q : HO} {y : HO} (ha : H a = none) (hd : d ≠ a) : upd (del (upd (upd (upd H a o) d p) a q) a) d y = upd H d y := by
  funext b
  by_cases hb : b = d
  · subst hb
    rw [upd_same, upd_same]
  · rw [upd_ne hb, upd_ne hb]
    by_cases hc : b = a
    · subst hc
      rw [del_same, ha]
    · rw [del_ne hc, upd_ne hc, upd_ne hb, upd_ne hc]
structure ExcK (K : PySem.W.Frag) (C fI : Addr) (f : Str) : Prop where
  ox : OexC K C
  no : PySem.W.findIn K (.ref C) f = some none
  ini : PySem.W.findIn K (.ref C) "__init__" = some (some (.ref fI))
  fn : PySem.W.typeIn K (.ref fI) = some (.type "function")
  xf : XfC K C
def excKB (x f : Str) : PySem.W.Frag → Bool := fun K => oexB x K && (He.eqO (PySem.W.findIn K (.ref (He.ga K x)) f) (some none) && (He.eqO (PySem.W.findIn K (.ref (He.ga K x)) "__init__") (some (some (.ref (He.ma K (He.ga K x) "__init__")))) &&
  (decide (PySem.W.typeIn K (.ref (He.ma K (He.ga K x) "__init__")) = some (.type "function")) && xfB K (He.ga K x))))
theorem excKB_ok {K : PySem.W.Frag} {x f : Str} (h : excKB x f K = true) : ExcK K (He.ga K x) (He.ma K (He.ga K x) "__init__") f := by
  obtain ⟨h1, h⟩ := He.ba h
  obtain ⟨h2, h⟩ := He.ba h
  obtain ⟨h3, h⟩ := He.ba h
  obtain ⟨h4, h5⟩ := He.ba h
  exact ⟨oexB_ok h1, He.eqO_ok h2, He.eqO_ok h3, of_decide_eq_true h4, xfB_ok h5⟩
section
variable {X : Cx} {e : Expr} {ta : TA} {p pos pos' : Pos}
theorem ps_rs {x f : Str} {C fI : Addr} {k : Nat} {fd : FuncData} {ps : List Str} {E : XK} (hc : X.calm = true) (T : ExcK X.K C fI f) (F1 : FnOk X.prog X.w X.K X.mg X.base CX0 k fI fd ps (sp_exc X.K C f)) (hr : Room (k + 1) X.A) (hb : Binds X.K fd ps [])
    (tk : L2N.Takes X fun cls d _ H => E cls d H) (hg : Gl X x) (hm : X.mg x = some (.ref C)) (ha : PA X [e] ta) (hdb : (x == ("__debug__" : Str)) = false := by decide) (he : starEach [e] X.env = (false, eval e X.env) :: starEach [] X.env := by rfl) :
    PS X (.Raise (some (.Call (.Name x p) [e] [] pos)) none pos') (tRs X.K C f E ta) :=
  L2N.ps_raise (pos := pos') hc tk (pmk_oexN (x := x) (p := p) (pos := pos) T.ox T.ini T.fn F1 hr hb pass0 hg hm ha hdb he (by rfl))
end
theorem rs_of {K : PySem.W.Frag} {C fI : Addr} {f : Str} {E : XK} {H : Hp} {v : V} (T : ExcK K C fI f) (h : ∀ d, H d = none → E (.ref C) (some d) (upd H d (.xd [(f, v)]))) :
    [v].length ≤ 1000 ∧ ∀ a, H a = none → sp_exc K C f (.ref a :: ([v] ++ [])) (upd H a (exo a C none))
      (fun z H2 => z = .non ∧ ∃ (d : Addr) (fs : List (Str × V)), H2 a = some (exo a C (some d)) ∧ H2 d = some (exd d fs) ∧ H d = none ∧ E (.ref C) (some d) (upd (del H2 a) d (.xd fs))) (fun _ _ _ => False) := by
  refine ⟨by simp, fun a hn => ⟨a, v, rfl, T.ox, T.no, upd_same, fun dx h2 h3 => ?_⟩⟩
  have hdx : H dx = none := by
    rw [upd_ne h3] at h2
    exact h2
  refine ⟨rfl, dx, [(f, v)], upd_same, by rw [upd_ne h3, upd_same], hdx, ?_⟩
  rw [upd_del hn h3]
  exact h dx hdx
section
open HotX
variable {prog : Program} {w : World} {A : Around} {E : Value → Shared → Prop} {s : Shared}
theorem next_tuple_endH {it t x1 : Addr} {i : Nat} {items : Array Value} {Q : Option Value → Shared → Prop} (hot : HotAt A x1 s.heap) (hne : x1 ≠ it) (hit : IsTupIter s.heap it t i) (ht : IsTup s.heap t items) (hx : items[i]? = none)
    (hQ : ∀ h', Heap.ExtBut it s.heap h' → Q none { s with heap := h' }) : wpAny (model prog w) A (pyNext (.ref it)) Q E s := by
  obtain ⟨o, ho, hc, hd⟩ := id hit
  obtain ⟨ol, hol, _, nl, hdl⟩ := ht
  obtain ⟨hh, o1, vs1, h1, d1, c1⟩ := hot
  unfold pyNext
  refine wpAny_bind (wpAny_attempt (wpAny_callSpecial?_slot (name := Str.ofString "__next__") hit.typeIs slot_tupleiter_next
    (wpAny_call_entry slot_tupleiter_next hit.typeIs entry_tupleiter_next ?_ (args_tupleiter_next _))))
  show wpAny _ _ (field (.ref it) 0 >>= _) _ _ s
  refine wpAny_bind (wpAny_field ho hd (x := .ref t) rfl ?_)
  show wpAny _ _ (if (Value.ref t == Value.none) = true then _ else _) _ _ s
  rw [if_neg (show ¬ ((Value.ref t == Value.none) = true) from Bool.false_ne_true)]
  show wpAny _ _ (field (.ref it) 1 >>= _) _ _ s
  refine wpAny_bind (wpAny_field ho hd (x := .int i 0) rfl ?_)
  show wpAny _ _ (seqItems? (.ref t) >>= _) _ _ s
  refine wpAny_bind (wpAny_seqItems hol hdl ?_)
  simp only [Int.toNat_natCast, hx]
  refine wpAny_bind (wpAny_rule (wpAny_bind (wpAny_setField ho hd (by simp) ?_)))
  show wpAny _ _ (newExc (.type "StopIteration") [] >>= _) _ _ _
  refine wpAny_bind ?_
  simp only [newExc, newTuple]
  refine wpAny_bind (wpAny_newObj_type ?_ (by size_fits))
  refine wpAny_bind (m := firstArgMember _ _) (wpAny_of_eq (a := Value.none) (by first | rfl | (simp only [firstArgMember]; rfl)) ?_)
  refine wpAny_newObj_type ?_ (by size_fits)
  have g1 := (Heap.get?_update_other s.heap (Obj.mapFields (·.setIfInBounds 0 Value.none)) (Ne.symm hne)).trans h1
  refine raiseNew_hot ⟨hh, o1, vs1, Heap.get?_push_of_some _ (Heap.get?_push_of_some _ g1), d1, c1⟩ (Nat.ne_of_lt (Heap.lt_size (Heap.get?_push_of_some _ g1))) (Heap.get?_push_size _ rfl) rfl (by first | (simp; done) | (simp; omega) | (simp only [Array.size_append]; simp; omega)) ?_
  refine wpAny_bind (wpAny_isInstance (T := "StopIteration") (b := true) ⟨_, Heap.get?_update_self _ (Heap.get?_push_size _ rfl) rfl, rfl⟩ isSubtype_stop ?_)
  refine wpAny_pure (hQ _ fun b o hb e => ?_)
  have e1 := (Heap.get?_update_other s.heap (Obj.mapFields (·.setIfInBounds 0 Value.none)) (Ne.symm hb)).trans e
  rw [Heap.get?_update_other _ _ (Nat.ne_of_gt (Heap.lt_size (Heap.get?_push_of_some _ e1)))]
  exact Heap.get?_push_of_some _ (Heap.get?_push_of_some _ e1)
theorem unpackItems_tupleH {t x1 : Addr} {items : Array Value} {Q : List Value → Shared → Prop} (hot : HotAt A x1 s.heap) (ht : IsTup s.heap t items)
    (hQ : ∀ h', Heap.ExtBut s.heap.objs.size s.heap h' → Q items.toList { s with heap := h' }) : wpAny (model prog w) A (unpackItems (.ref t) items.size none) Q E s := by
  have hlt : t ≠ s.heap.objs.size := by obtain ⟨o, ho, _⟩ := ht; exact Nat.ne_of_lt (Heap.lt_size ho)
  obtain ⟨hh, o1, vs1, h1, d1, c1⟩ := hot
  have hx1 : x1 ≠ s.heap.objs.size := Nat.ne_of_lt (Heap.lt_size h1)
  unfold unpackItems
  refine wpAny_bind ?_
  unfold notIterableAtAll
  refine wpAny_bind (wpAny_specialOf ht.typeIs slot_tuple_iter.lookup ?_)
  refine wpAny_pure ?_
  simp only [Bool.false_eq_true, if_false]
  refine wpAny_bind (wpAny_holding (iter_tuple ht ?_))
  refine wpAny_bind (wpAny_holding (draw_tuple hlt items.size 0 _ _ ⟨_, Heap.get?_push_size _ rfl, rfl, rfl⟩ (ht.push _) (by omega) fun h₁ hit₁ hs₁ => ?_))
  have hall : List.take items.size (List.drop 0 items.toList) = items.toList := by
    rw [List.drop_zero]; exact List.take_of_length_le (by simp)
  rw [hall]
  rw [if_neg (by simp)]
  have ht₁ : IsTup h₁ t items := (ht.push _).extBut hs₁.extBut hlt
  have g1 : h₁.get? x1 = some o1 := hs₁.extBut x1 o1 hx1 (Heap.get?_push_of_some _ h1)
  refine wpAny_bind (wpAny_holding (next_tuple_endH ⟨hh, o1, vs1, g1, d1, c1⟩ hx1 hit₁ ht₁ (by simp) fun h₂ he₂ => ?_))
  simp only [Option.isSome_none, Bool.false_eq_true, if_false]
  exact wpAny_pure (hQ h₂ fun b o hb e => he₂ b o hb (hs₁.extBut b o hb (Heap.get?_push_of_some _ e)))
end
section
variable {X : Cx}
theorem hot_suite {a : Addr} {oe : Obj} {pn pins : List (Addr × Obj)} {cls : Value} {d : Option Addr} {σ : L2.St} {H : Hp} {s : Shared} (hz : L2N.Zn cls d oe) (hf : ∃ vs, oe.data = .fields vs) (I : Inv (X.suite a ((a, oe) :: pn)) pins σ H s) :
    HotX.HotAt (X.suite a ((a, oe) :: pn)).A a s.heap := by
  obtain ⟨vs, hd⟩ := hf
  exact ⟨rfl, oe, vs, (I.pin (a, oe) (List.mem_append_left _ List.mem_cons_self)).1, hd, hz.2.2 vs hd⟩
theorem ps_parH {i j : Nat} {x y : Str} {a b : Expr} {ta : TA} {px py pt pos : Pos} {kt k2 pt2} (hot : ∀ pins σ H s, Inv X pins σ H s → ∃ x1, HotX.HotAt X.A x1 s.heap) (hN : X.N.Nodup) (hi : X.N[i]? = some x) (hj : X.N[j]? = some y) (hij : i ≠ j)
    (hx : X.env.scope.names.lookup x = some .local) (hy : X.env.scope.names.lookup y = some .local) (ha : PA X [a, b] ta)
    (hw : swappedStores [.Tuple [.Name x px, .Name y py] kt pt] (.Tuple [a, b] k2 pt2) X.env = pure (some [x, y]))
    (hs : swapsWithSole [.Tuple [.Name x px, .Name y py] kt pt] (.Tuple [a, b] k2 pt2) pos.line X.env = pure false := by rfl) :
    PS X (.Assign [.Tuple [.Name x px, .Name y py] kt pt] (.Tuple [a, b] k2 pt2) pos) (tPar i j ta) := by
  refine ⟨fun pins s σ H D I h => ?_⟩
  rw [exec_Assign_arm]
  refine wpAny_bind (wpAny_standAt ?_)
  rw [hs]
  refine wpAny_bind (wpAny_pure ?_)
  rw [if_neg (by decide)]
  refine wpAny_bind (Tuple_ (thn (ha.run _ pins s σ H _ I h) fun us s1 ⟨vs, H1, I1, r1, q1⟩ => ?_))
  obtain ⟨v, w, e1, q1⟩ := q1
  subst e1
  obtain ⟨u1, u2, rfl, rv, rw'⟩ : ∃ u1 u2, us = [u1, u2] ∧ RelV v u1 ∧ RelV w u2 := by
    cases r1 with
    | cons p q =>
      cases q with
      | cons p' q' =>
        cases q'
        exact ⟨_, _, rfl, p, p'⟩
  refine wpAny_newObj_type ?_ (by show 2 ≤ sizeLine; decide)
  have I2 : Inv X pins σ H1 { s1 with heap := s1.heap.push { cls := .type "tuple", data := .seq [u1, u2].toArray } } := I1.kept (t' := s1.toks) fun b o e => Heap.get?_push_of_some _ e
  rw [hw]
  refine wpAny_bind (wpAny_pure ?_)
  show wpAny (model X.prog X.w) X.A (do rule "assign.swapped-stores"; let items ← unpackItems (.ref s1.heap.objs.size) 2 none; assignInOrder [fun v => bindName X.env y v, fun v => bindName X.env x v] items.reverse; pure Flow.next) _ _ _
  obtain ⟨x1, hx1⟩ := hot _ _ _ _ I2
  refine wpAny_bind (wpAny_rule (wpAny_bind (unpackItems_tupleH (items := #[u1, u2]) hx1 (IsTup.new s1.heap _) fun h' hx' => ?_)))
  have I3 := I2.kept (h' := h') (t' := s1.toks) fun b o e => hx' b o (Nat.ne_of_lt (Heap.lt_size e)) e
  show wpAny _ _ (assignInOrder [fun v => bindName X.env y v, fun v => bindName X.env x v] [u2, u1] >>= fun _ => pure Flow.next) _ _ _
  refine wpAny_bind (assignInOrder_cons (wpAny_bindName (store_ok I3 hN hj (.inl hy) rw' (fun s2 I4 => ?_) (.inr hy))))
  refine assignInOrder_cons (wpAny_bindName (store_ok I4 hN hi (.inl hx) rv (fun s3 I5 => assignInOrder_nil (wpAny_pure ?_)) (.inr hx)))
  rw [List.set_comm _ _ (Ne.symm hij)] at I5
  exact ⟨_, H1, I5, q1⟩
end
end WB
namespace WB
open PySem PySem.Spec PyProof.Rows L2 LamX
def lamN (X : Cx) (A : Around) (outer : List Env) (s : Shared) (H : Hp) (E : XK) (scope : Scope) (f c' : Addr) : Cx :=
  { lamCx X A outer s H E scope f c' with xe := fun e s' => wpAny (model X.prog X.w) (A.deeper (lamEnv X scope s.heap.objs.size f c')) (leaving (lamEnv X scope s.heap.objs.size f c') e) (fun _ s'' => L2N.CX X.prog X.w outer H s E e s'') (fun e' s'' => L2N.CX X.prog X.w outer H s E e' s'') s' }
theorem lam_takes {X : Cx} {A : Around} {outer : List Env} {s : Shared} {H : Hp} {E : XK} {scope : Scope} {f c' : Addr} : L2N.Takes (lamN X A outer s H E scope f c') fun cls d _ H => E cls d H := L2N.takes_of rfl rfl rfl rfl
theorem lam_passes {X : Cx} {A : Around} {outer : List Env} {s : Shared} {H : Hp} {E : XK} {scope : Scope} {f c' : Addr} : Passes (L2N.CX (lamN X A outer s H E scope f c').prog (lamN X A outer s H E scope f c').w) (lamN X A outer s H E scope f c') E := L2N.passes_call lam_takes fun _ _ _ _ h => h
def upT (tl : XK → Hp → VK → Prop) (E : XK) (H : Hp) (Q : VK) : Prop := ∃ (E1 : XK) (Q1 : VK), (∀ c d H', E1 c d H' → E c d H') ∧ (∀ v H', Q1 v H' → Q v H') ∧ tl E1 H Q1
def tAct (f c' : Addr) (q : Str) (tl : XK → Hp → VK → Prop) (W : WX) : TE := fun σ H Q => σ[0]? = some (some (.ref f)) ∧ H c' = some (CodeO c' q) ∧ upT tl (WE W σ) H Q
theorem CR_wide {P : Program} {w : World} {outer : List Env} {H : Hp} {s s' : Shared} {Q Q1 : VK} {E E1 : XK} {r : Result} (hE : ∀ c d H', E1 c d H' → E c d H') (hQ : ∀ v H', Q1 v H' → Q v H') (h : CR (L2N.CX P w) outer P w H s Q1 E1 r s') : CR (L2N.CX P w) outer P w H s Q E r s' := by
  cases r with
  | error e =>
    obtain ⟨a, B, H', cls, d, h1, h2, h3, h4, h5, h6, h7, h8⟩ := h
    exact ⟨a, B, H', cls, d, h1, h2, h3, h4, h5, h6, h7, hE _ _ _ h8⟩
  | ok fl =>
    cases fl with
    | ret u =>
      obtain ⟨v, H', h1, h2, h3, h4, h5, h6⟩ := h
      exact ⟨v, H', h1, h2, h3, h4, h5, hQ _ _ h6⟩
    | next => exact False.elim h
    | brk => exact False.elim h
    | cont => exact False.elim h
section
variable {X : Cx} {pins : List (Addr × Obj)} {σ : L2.St} {H HZ : Hp} {s s1 : Shared}
theorem pe_actN {CXg : CXT} {Eg : XK} {Ng : List Str} {qg : Str} {sg : Scope} {g f c' : Addr} {cdg pm ctv : Value} {params : Arguments} {body : Expr} {scope : Scope} {k : Nat} {a : Str} {pn : List (Addr × Obj)} {xe : Value → Shared → Prop} {W : WX} {tb : XK → TE} {p1 p2 : Pos}
    (I : Inv X pins σ H s) (L : LamS X.env.scope scope) (hf : s.heap.get? f = some (PySem.W.kla_obj "<lambda>" (X.env.qual ++ "<lambda>") params body scope (cloFrom X.env.cells scope.names []) pm c' ctv)) (hfn : H f = none) (hfr : f ∉ frs X.stack)
    (hbind : bindArgs (PySem.W.kla_fn "<lambda>" (X.env.qual ++ "<lambda>") params body scope (cloFrom X.env.cells scope.names []) pm (.ref c') ctv) ⟨[], []⟩ = pure [])
    (tk : L2N.Takes ((cxOf CXg X.prog X.w X.K X.mg X.base Ng qg sg g cdg X.A X.stack s H Eg).tr pn xe) W) (hr : Room (k + 1) (X.A.deeper (envOfC qg sg s.heap.objs.size g cdg)))
    (hbody : ∀ (A : Around) (outer : List Env) (s : Shared) (H : Hp) (E : XK), Room k (A.deeper (lamEnv X scope s.heap.objs.size f c')) → PE (lamN X A outer s H E scope f c') body (tb E))
    (hN : Ng[0]? = some a) (hv : Vis sg a) (hd : (a == ("__debug__" : Str)) = false := by decide) (hcd : (a == ("__classdict__" : Str)) = false := by decide) :
    PE ((cxOf CXg X.prog X.w X.K X.mg X.base Ng qg sg g cdg X.A X.stack s H Eg).tr pn xe) (.Call (.Name a p1) [] [] p2)
      (tAct f c' (X.env.qual ++ "<lambda>") (fun E H' Q' => tb E σ H' Q') W) := by
  refine ⟨fun pinsZ sZ σZ HZ Q IZ h => ?_⟩
  obtain ⟨hs, hc, E, Q1, wE, wQ, ht⟩ := h
  refine wpAny_Call_Name_kw (thn ((pe_var (pos := p1) (i := 0) hN hv hd hcd).run pinsZ sZ σZ HZ (fun v H1 => v = .ref f ∧ H1 = HZ) IZ ⟨.ref f, hs, rfl, rfl⟩) fun u s1 ⟨v, H1, I1, r1, q1⟩ => ?_)
  obtain ⟨ev, eH⟩ := q1
  subst ev
  rw [eH] at I1
  obtain rfl : u = Value.ref f := r1
  have of1 := I1.base.keep f _ hf hfn hfr (fun z => nomatch (show f ∈ ([] : List Addr) from z))
  refine PySem.W.callWith_F0 ⟨_, _, _, _, of1⟩ ?_
  have un : Un (frs X.stack) [] H HZ s.heap s1.heap := I1.base
  obtain ⟨⟨oc, vs, t, hoc, hdc, hvc⟩, _, _⟩ := I1.hok c' _ hc
  have rc : codeAny (model X.prog X.w) (X.A.deeper (envOfC qg sg s.heap.objs.size g cdg)) (.call (.ref f) ⟨[], []⟩) (CR (L2N.CX X.prog X.w) (envOfC qg sg s.heap.objs.size g cdg :: X.stack) X.prog X.w HZ s1 Q1 E) s1 := by
    refine PySem.W.kla_callFunE hr.depth of1 rfl L.co L.gen rfl ⟨c', oc, vs, t, rfl, hoc, hdc, hvc⟩ ?_
    rw [hbind]
    refine wpAny_pure (wpAny_newFunctionEnv (fun y hy => (L.own y hy).2) (fun y hy => absurd hy (by simp)) (fun h₁ hns hsb => ⟨I1.nolimit.fresh _ hsb, ?_⟩) L.kind)
    show codeAny _ _ (.expr body (lamEnv X scope s1.heap.objs.size f c')) _ _
    have kp : ∀ b o, s1.heap.get? b = some o → h₁.get? b = some o := fun b o e => hsb.extBut b o (Nat.ne_of_lt (Heap.lt_size e)) (Heap.get?_push_of_some _ e)
    have J0 : Inv (lamCx X (X.A.deeper (envOfC qg sg s.heap.objs.size g cdg)) (envOfC qg sg s.heap.objs.size g cdg :: X.stack) s1 HZ E scope f c') [] σ HZ { s1 with heap := h₁, toks := s1.toks + ([] : List (Str × Value)).length } :=
      lam_start2 I L I1.env0 hr.hd un hns kp
    have J : Inv (lamN X (X.A.deeper (envOfC qg sg s.heap.objs.size g cdg)) (envOfC qg sg s.heap.objs.size g cdg :: X.stack) s1 HZ E scope f c') [] σ HZ { s1 with heap := h₁, toks := s1.toks + ([] : List (Str × Value)).length } := by
      have ok := J0.ok
      exact ⟨⟨ok.mod, ok.kind, ok.glob, ok.blt, ok.above, ok.inj, ok.has, ok.cab, ok.hd, ok.frames, ok.stk, ok.exf, ok.bs, ok.bsz, ok.noex, ok.exfs, ok.funs, ok.frf⟩, J0.os, J0.bare, J0.base, J0.loc, J0.cell, J0.free, J0.freeC, J0.pin, J0.hok, J0.len⟩
    refine PySem.W.kla_codeExpr (wpAny_mono ((hbody _ _ s1 HZ E (hr.deeper _)).run [] _ _ HZ Q1 J ht) (fun v s' hq => ?_) fun e s' hq => hq)
    obtain ⟨w', H', J', rv, q⟩ := hq
    exact ⟨w', H', J'.os, J'.bare, J'.base, J'.hok, rv, q⟩
  refine wpAny_call (codeAny_mono rc fun r s' hq1 => ?_)
  have hq := CR_wide wE wQ hq1
  cases r with
  | error e => exact L2N.passAt tk σZ pinsZ HZ s1 e s' I1 hq
  | ok fl =>
    cases fl with
    | ret u => exact I1.after hq
    | next => exact False.elim hq
    | brk => exact False.elim hq
    | cont => exact False.elim hq
end
def GivesN (X : Cx) (k : Nat) (Ng : List Str) (x : Str) (sg : Scope) (g : Addr) (cdg : Value) (bg : List Stmt) (a : Str) (TT : (XK → Hp → VK → Prop) → Hp → VK → Prop) : Prop :=
  ∀ (q : Str) (f c' : Addr) (s : Shared) (H : Hp) (Q : VK) (tl : XK → Hp → VK → Prop), Room (k + 1) (X.A.deeper (envOfC x sg s.heap.objs.size g cdg)) →
    (∀ (W : WX) (pn : List (Addr × Obj)) (xe : Value → Shared → Prop) (p1 p2 : Pos), L2N.Takes ((cxOf CX0 X.prog X.w X.K X.mg X.base Ng x sg g cdg X.A X.stack s H E0).tr pn xe) W →
      PE ((cxOf CX0 X.prog X.w X.K X.mg X.base Ng x sg g cdg X.A X.stack s H E0).tr pn xe) (.Call (.Name a p1) [] [] p2) (tAct f c' q tl W)) →
    H c' = some (CodeO c' q) → TT tl H Q →
    ∃ t, PSs (cxOf CX0 X.prog X.w X.K X.mg X.base Ng x sg g cdg X.A X.stack s H E0).nox bg t ∧ t { nx := fun _ H' => Q .non H', rt := Q } (L2.start Ng [.ref f]) H
section
variable {X : Cx}
theorem pe_lamN {T : List (Addr × Str)} {TT : (XK → Hp → VK → Prop) → Hp → VK → Prop} {x a : Str} {g c P : Addr} {k : Nat} {pg : Arguments} {bg : List Stmt} {sg : Scope} {dvs kws} {fd : FuncData} {Ng : List Str}
    {params : Arguments} {body : Expr} {scope : Scope} {t : XK → TE} {p lpos pos : Pos} (hg : Gl X x) (hm : X.mg x = some (.ref g)) (Fg : FunD X.K x x pg bg sg dvs kws g fd) (hb : L2.Binds X.K fd [a] []) (Sg : FnScope Ng [a] sg) (hNg : Ng[0]? = some a) (hva : Vis sg a)
    (hG : ∀ cdv, GivesN X k Ng x sg g cdv bg a TT)
    (TB : TabB X.base X.mg c P) (hcode : X.env.code = .ref c) (hmT : (P, X.env.qual ++ "<lambda>") ∈ T) (hu : ∀ p ∈ T, p.1 = P → p.2 = X.env.qual ++ "<lambda>") (hr : Room (k + 2) X.A) (L : LamS X.env.scope scope) (hdef : defaultsOf params X.env = ([], []))
    (hbind : ∀ (q : Str) (cl : List (Str × Addr)) (pm cv ctv : Value), bindArgs (PySem.W.kla_fn "<lambda>" q params body scope cl pm cv ctv) ⟨[], []⟩ = pure [])
    (hbody : ∀ (A : Around) (outer : List Env) (s : Shared) (H : Hp) (E : XK) (f c' : Addr), Room k (A.deeper (lamEnv X scope s.heap.objs.size f c')) → PE (lamN X A outer s H E scope f c') body (t E))
    (hdb : (x == ("__debug__" : Str)) = false := by decide) (hd : (a == ("__debug__" : Str)) = false := by decide) (hcd : (a == ("__classdict__" : Str)) = false := by decide) :
    PE X (.Call (.Name x p) [.Lambda params body scope lpos] [] pos) (tLam T TT t) := by
  obtain ⟨oc, od, dV, kV, doc, pm, an, cdv, ct, osl, rfl, lk, hcg, _, _⟩ := Fg.ex
  refine ⟨fun pins s σ H Q I h => ?_⟩
  obtain ⟨hT, h⟩ := h
  refine wpAny_Call_Name_kw (ld_glob I hg hm ?_ hdb)
  refine PySem.W.callWith_K (h₀ := X.base) I.ok.mod.kin Fg.kp ?_ (by rfl) (by rfl)
  show wpAny _ _ (spliced ((false, eval (.Lambda params body scope lpos) X.env) :: backTo pos (starEach [] X.env))) _ _ s
  refine Calls.spliced_cons (lam_make2 I TB hcode hmT hu hT hdef (L.has I.ok) fun f c' pm' ctv H1 s' I1 eN T1 hf hfn hfr hco => ?_)
  refine Calls.spliced_nil ⟨I1.kIn, ?_⟩
  have rc : codeAny (model X.prog X.w) X.A (.call (.ref g) ⟨[.ref f], []⟩) (CR CX0 X.stack X.prog X.w H1 s' Q E0) s' := by
    refine run_ofS (N := Ng) (ps := [a]) (us := [.ref f]) (vs := [.ref f]) lk hcg Sg hr I1.env0 (hb s' [.ref f] I1.kIn rfl) (.cons rfl .nil) rfl fun hr' => ?_
    obtain ⟨t', ht', hq'⟩ := hG cdv _ f c' s' H1 Q (fun E H' Q' => t E σ H' Q') hr' (fun W pn xe p1 p2 tk => pe_actN I1 L hf hfn hfr (hbind _ _ _ _ _) tk hr' (fun A outer s H E hr2 => hbody A outer s H E f c' hr2) hNg hva hd hcd) hco (h H1 eN T1)
    exact ⟨t', ht'.nox, hq'⟩
  refine wpAny_call (codeAny_mono rc fun r s2 hq => ?_)
  cases r with
  | error e => exact (show False from hq).elim
  | ok fl =>
    cases fl with
    | ret u => exact I1.after hq
    | next => exact False.elim hq
    | brk => exact False.elim hq
    | cont => exact False.elim hq
end
end WB
namespace WB
open PySem PySem.Spec PyProof.Rows L2 LamX
structure SaysWT (fa : List He.Fa) (fn : List He5.DefA) (ex : List Fx) (tf : List He.Defn) (h : Heap) (K : Fr') : Prop where
  c : SaysW fa fn ex K
  hd : ∀ p ∈ tf, PySem.W.codeHdIn K (He.cT K p).1 (He.cT K p).2 = true
  out : ∀ p ∈ tf, K.lookup (He.cT K p).2 = none
  empty : ∀ p ∈ tf, h.get? (He.cT K p).2 = some { cls := .none, data := .fields #[] }
abbrev AlWT : Type := He.AlD × Bool
def obsWT (n : Nat) (fa : List He.Fa) (fn : List He5.DefA) (ex : List Fx) (tf : List He.Defn) (g : Addr → Option Obj) : AlWT := (obsW fa fn ex (He.frT g (asB g n)), He.tabsB g tf (He.frT g (asB g n)))
theorem saysWT_of {n : Nat} {fa : List He.Fa} {fn : List He5.DefA} {ex : List Fx} {tf : List He.Defn} {h : Heap} (e : obsWT n fa fn ex tf h.get? = (He5.valA fn, true)) : SaysWT fa fn ex tf h (He.frT h.get? (asB h.get? n)) := by
  have e1 : obsW fa fn ex (He.frT h.get? (asB h.get? n)) = He5.valA fn := congrArg (fun z : AlWT => z.1) e
  have e2 : He.tabsB h.get? tf (He.frT h.get? (asB h.get? n)) = true := congrArg (fun z : AlWT => z.2) e
  have key : ∀ p ∈ tf, PySem.W.codeHdIn (He.frT h.get? (asB h.get? n)) (He.cT (He.frT h.get? (asB h.get? n)) p).1 (He.cT (He.frT h.get? (asB h.get? n)) p).2 = true ∧ ∃ o, h.get? (He.cT (He.frT h.get? (asB h.get? n)) p).2 = some o ∧ He.emptyTab o = true := fun p hp => by
    obtain ⟨h3, h4⟩ := He.ba (List.all_eq_true.mp e2 p hp)
    refine ⟨h3, ?_⟩
    cases q : h.get? (He.cT (He.frT h.get? (asB h.get? n)) p).2 with
    | none =>
      rw [q] at h4
      cases h4
    | some o =>
      rw [q] at h4
      exact ⟨o, rfl, h4⟩
  refine ⟨e1, fun p hp => (key p hp).1, fun p hp => ?_, fun p hp => ?_⟩
  · obtain ⟨_, o, q, z⟩ := key p hp
    exact He.frT_none q z
  · obtain ⟨_, o, q, z⟩ := key p hp
    rw [q, He.emptyTab_eq z]
def hookWT (n : Nat) (fa : List He.Fa) (fn : List He5.DefA) (ex : List Fx) (tf : List He.Defn) : PySem.W.Hook where
  α := AlWT
  obs := fun s => obsWT n fa fn ex tf s.heap.get?
  val := fun _ => (He5.valA fn, true)
  says := fun _ h => ∃ K : Fr', K.In h ∧ SaysWT fa fn ex tf h K
  of := fun _ _ e => ⟨_, He.frT_in, saysWT_of e⟩
  keeps := fun _ _ _ ⟨K, hK, c⟩ k => ⟨K, PySem.W.Frag.In.keeps hK k, ⟨c.c, c.hd, c.out, fun p hp => k _ _ (c.empty p hp)⟩⟩
theorem obsWT_eq {n : Nat} {fa : List He.Fa} {fn : List He5.DefA} {ex : List Fx} {tf : List He.Defn} {g : Addr → Option Obj} {s : Shared} (h : ∀ a, g a = s.heap.get? a) : obsWT n fa fn ex tf g = (hookWT n fa fn ex tf).obs s := by
  have e : g = s.heap.get? := funext h
  rw [e] <;> rfl
theorem walk_ofTE {l : PySem.W.OpenLaw} {n k : Nat} {q : Program} {loose : List Str} {XP : (Str → Option Value) → Heap → Prop} {YP : World → Heap → Prop} {d : DefRec} {CX : CXT} {x : Str}
    (hn : l.most = some n) (hn2 : n ≤ sizeLine) (hdf : d.params.defaults = []) (hr : Room k callerA)
    (F : ∀ (w : World) (mg : Str → Option Value) (fa : Addr) (h : Heap), YP w h → h.Ns mainGlobals mg → mg d.name = some (.ref fa) → ∃ K : PySem.W.Frag, K.In h ∧ LawAtS l w K CX k n x mg fa h)
    (hCX : ∀ (H : Hp) (s : Shared) (e : Value) (s' : Shared), CX [] H s (fun _ _ _ => False) e s' → False) :
    PySem.W.WalkO q loose XP YP l.row.toRowW d [] (fun f vs => PySem.call f vs) := by
  refine Att.attach_callB hn hdf fun w s₀ s₁ mg mb fa o pm cd doc a vs ns G Y ho hd hcd hmg hobj hints hlen hbits hg => ?_
  obtain ⟨K, KX, fd, cs, sp, hT, nT, C, hb, hsp, hF⟩ := F w mg fa _ Y G.T.g hmg
  exact law_callTs KX G.T.g G.T.b G.T.builtins G.T.nolimit hg hT nT C G.T.bmain hobj hints (Nat.le_trans hlen hn2) hr hF hb (fun H hH hS => hsp H a ns hlen hbits hH hS) fun H e s' => hCX H s₁ e s'
def ExmAll (K : PySem.W.Frag) (l : List Str) : Prop := ∀ x ∈ l, ∀ y ∈ l, PySem.W.exmOne K (.ref (He.ga K x)) (.ref (He.ga K y)) = some (decide (x = y))
def exmAllB (l : List Str) : PySem.W.Frag → Bool := fun K => l.all fun x => l.all fun y => decide (PySem.W.exmOne K (.ref (He.ga K x)) (.ref (He.ga K y)) = some (decide (x = y)))
theorem exmAllB_ok {K : PySem.W.Frag} {l : List Str} (h : exmAllB l K = true) : ExmAll K l := fun x hx y hy => of_decide_eq_true (List.all_eq_true.mp (List.all_eq_true.mp h x hx) y hy)
def tabsOf (K : PySem.W.Frag) (l : List Str) : List (Addr × Str) := l.map fun x => ((He.cT K (x, none)).2, (x ++ ".<locals>.") ++ "<lambda>")
theorem tabs_ofL {K : PySem.W.Frag} {l : List Str} {H : Hp} (h : ∀ p ∈ (l.map fun x => ((x, none) : He.Defn)).map (He.cT K), H p.2 = some (.tbl #[])) : Tabs (tabsOf K l) H := by
  intro p hp
  obtain ⟨x, hx, rfl⟩ := List.mem_map.mp hp
  exact TabS.nil (h (He.cT K (x, none)) (List.mem_map.mpr ⟨(x, none), List.mem_map.mpr ⟨x, hx, rfl⟩, rfl⟩))
def tabsDB (l : List Str) : PySem.W.Frag → Bool := fun K => decide ((l.map fun x => (He.cT K (x, none)).2).Nodup)
theorem tabsD_ok {K : PySem.W.Frag} {l : List Str} {i : Nat} {x : Str} (h : tabsDB l K = true) (hx : l[i]? = some x) : ∀ p ∈ tabsOf K l, p.1 = (He.cT K (x, none)).2 → p.2 = (x ++ ".<locals>.") ++ "<lambda>" := by
  intro p hp e
  have hn : (l.map fun x => (He.cT K (x, none)).2).Nodup := of_decide_eq_true h
  obtain ⟨j, hj, hp⟩ := List.mem_iff_getElem.mp hp
  unfold tabsOf at hj hp
  rw [List.length_map] at hj
  rw [List.getElem_map] at hp
  subst hp
  have hi : i < l.length := (List.getElem?_eq_some_iff.mp hx).1
  have e2 : (l.map fun x => (He.cT K (x, none)).2)[j]? = (l.map fun x => (He.cT K (x, none)).2)[i]? := by
    rw [List.getElem?_map, List.getElem?_map, hx, List.getElem?_eq_getElem hj]
    exact congrArg some e
  have := (List.getElem?_inj (by rw [List.length_map]; exact hj) hn).mp e2
  subst this
  rw [List.getElem?_eq_getElem hj] at hx
  cases hx
  rfl
end WB
namespace WB
open PySem PySem.Spec PyProof.Rows L2
open PySem.W in
theorem bin_any {prog : Program} {w : World} {A : Around} {E : Value → Shared → Prop} {s : Shared} {K : Frag} {x C L f : Addr} {h₀ : Heap} {m : Str → Option Value} {ox : Obj} {od : Option Obj} {T : String} {op : Operator} {b : Value} {fo ro rc : Option Value} {Q : Value → Shared → Prop} (F : Fr h₀ L s.heap m) (X₀ : K.In h₀) (I : InstAt s.heap x ox C od) (hb : Looks (model prog w) s.heap (typeOf b) (.type T)) (hc : selfFirst K C = true)
    (hs : findIn K (.ref C) (PySem.dunder op.info.2) = some (some (.ref f))) (hf : isFn K (.ref f) = true) (hr : findIn K (.ref C) (dunderR op.info.2) = some rc) (hp : rc = none ∨ ∃ g : Addr, rc = some (.ref g))
    (h1 : findIn K (.type T) (PySem.dunder op.info.2) = some fo) (h2 : findIn K (.type T) (dunderR op.info.2) = some ro) (hsub : subIn K (.type T) (.ref C) = some false)
    (h : wpAny (model prog w) A (call (.ref f) [.ref x, b]) (PySem.W.CmpBack Q) E s) : wpAny (model prog w) A (binaryOp op (.ref x) b) Q E s := by
  have X := X₀.keeps F.keep
  obtain ⟨cd, rest, hcd, hm⟩ := ksp_first hc
  rcases hi : op.info with ⟨sy, nm⟩
  rw [hi] at hs hr h1 h2
  dsimp only at hs hr h1 h2
  have told := ksp_try X I hs hf h
  obtain ⟨hh, g, d, tt, os⟩ := s
  have tx : Looks (model prog w) hh (typeOf (.ref x)) (.ref C) := I.type
  have fx : Looks (model prog w) hh (fillsNumberSlot (.ref C) nm) true := fills_K X hcd hm hs
  have fb := ksp_fillsT (M := model prog w) X h1 h2
  have su : Looks (model prog w) hh (isSubtype (.type T) (.ref C)) false := looks_subIn X hsub
  have px : Looks (model prog w) hh (numberSlotInPython (.ref C) nm) true := ksp_inPy X hs hr hp
  have pb : Looks (model prog w) hh (numberSlotInPython (.type T) nm) false := Looks.of_pure rfl
  have lb : Looks (model prog w) hh (typeLookup (.type T) (dunderR nm)) ro := looks_findIn X h2
  have ne : (Value.ref C == Value.type T) = false := by
    cases e : (Value.ref C == Value.type T) with
    | false => rfl
    | true => cases beq_iff_eq.mp e
  generalize ((fo.isSome && !isSeqSlot fo) || (ro.isSome && !isSeqSlot ro)) = rr at fb
  simp only [binaryOp, hi]
  refine wpAny_holding (wpAny_bind ?_)
  unfold binaryOp1
  refine wpAny_bind (tx.at (wpAny_bind (hb.at (wpAny_bind (fx.at ?_)))))
  simp only [ne, Bool.false_eq_true, if_false]
  cases rr <;>
  · ksp_lk
    refine wpAny_mono told (fun r s' hr' => ?_) fun _ _ e => e
    obtain ⟨v, rfl, hq⟩ := hr'
    ksp_lk
    exact hq
variable {X : Cx} {CX : CXT} {k : Nat} {f C : Addr} {fd : FuncData} {ps : List Str} {sp : Sp} {E : XK}
def rBinV (C : Addr) (sp : Sp) (E : XK) (K : PySem.W.Frag) : R2 := fun x y H Q => ∃ a dx fs, x = .ref a ∧ H a = some (.ins C dx fs) ∧ (∃ n, Kd K H y n) ∧ sp [x, y] H Q E
def BinTs (K : PySem.W.Frag) (C : Addr) (nm : String) (f : Addr) : Prop := ∀ T ∈ KD, BinT K C nm T f
theorem op_binO_any {op : Operator} (S1 : BinTs X.K C op.info.2 f) (F : FnOk X.prog X.w X.K X.mg X.base CX k f fd ps sp) (hr : Room k X.A) (hb : Binds X.K fd ps []) (hx : Passes CX X E) : OpR X (binaryOp op) (rBinV C sp E X.K) := by
  intro pins s σ H x y v u Q I rx ry h
  obtain ⟨a, dx, fs, rfl, ha, ⟨n, hk, hn⟩, h⟩ := h
  have B := S1 n hn
  cases rx
  obtain ⟨P, Z, hP, _⟩ := kit_of I ry hk
  obtain ⟨ox, od, J⟩ := inst_at I ha
  obtain ⟨m, hF⟩ := I.fr
  obtain ⟨fo, h1⟩ := B.h1
  obtain ⟨ro, h2⟩ := B.h2
  refine bin_any (T := n) hF I.ok.mod.kin J (Z.ty _ _ (I.ok.mod.kin.keeps hF.keep) hP) B.sf B.sp.at_ B.sp.fn B.rc (.inl rfl) h1 h2 B.sub (wpAny_mono (run_sub (dvs := []) (vs := [.ref a, y]) F ⟨hr, rfl⟩ hb .nil hx I (.cons rfl (.cons ry .nil)) h) (fun v s' hv => cmpBack hv) fun _ _ z => z)
end WB
namespace WB
open PySem PySem.Spec PyProof.Rows L2
def binBs (x : Str) (nm : String) : Fx := fun K => KD.all fun T => binB x nm T K
theorem binBs_ok {K : Fr'} {x : Str} {nm : String} (h : binBs x nm K = true) : BinTs K (He.ga K x) nm (He.ma K (He.ga K x) (PySem.dunder nm)) := fun T hT => binB_ok (List.all_eq_true.mp h T hT)
end WB
namespace WB
open PySem PySem.Spec PyProof.Rows L2
variable {X : Cx} {CX : CXT} {k : Nat} {f C C2 : Addr} {fd : FuncData} {ps : List Str} {sp : Sp} {E : XK}
def kitTB (x : Str) : Fx := fun K => (["tuple", "list", "dict", "bool"] : List String).all fun n => decide (PySem.W.kitOne K (.ref (He.ga K x)) (.type n) = some false)
theorem kitTB_ok {K : Fr'} {x : Str} (h : kitTB x K = true) : ∀ n ∈ (["tuple", "list", "dict", "bool"] : List String), PySem.W.kitOne K (.ref (He.ga K x)) (.type n) = some false := fun n hn => of_decide_eq_true (List.all_eq_true.mp h n hn)
end WB
namespace WB
open PySem PySem.Spec PyProof.Rows L2 LamX
def top (i : Nat) : Stmt := PySem.Challenge.pw_wherebegun_k05_rings_refused.main.body.getD i (.Pass ⟨0, 0, 0, 0⟩)
abbrev st_is_integer : Stmt := top 12
abbrev st_is_within : Stmt := top 13
abbrev st_is_word : Stmt := top 14
abbrev st_is_row : Stmt := top 15
abbrev st_least_turning : Stmt := top 17
abbrev st_Ring_init : Stmt := inClass (top 18) 0
abbrev st_Ring_text : Stmt := inClass (top 18) 1
abbrev st_Ring_stretch : Stmt := inClass (top 18) 3
abbrev st_Ring_turned : Stmt := inClass (top 18) 4
abbrev st_Ring_len : Stmt := inClass (top 18) 6
abbrev st_Ring_eq : Stmt := inClass (top 18) 8
abbrev st_Ring_getitem : Stmt := inClass (top 18) 9
abbrev st_Ring_mul : Stmt := inClass (top 18) 12
abbrev st_Ring_add : Stmt := inClass (top 18) 13
abbrev st_law_cell : Stmt := top 20
abbrev st_law_pool : Stmt := top 21
abbrev st_law_draw : Stmt := top 22
abbrev st_law_faceR : Stmt := top 23
abbrev st_law_wholeK : Stmt := top 24
abbrev st_law_odd : Stmt := top 25
abbrev st_law_signs : Stmt := top 26
abbrev st_law_word : Stmt := top 27
abbrev st_law_long : Stmt := top 28
abbrev st_law_is_word : Stmt := top 29
abbrev st_law_heard05 : Stmt := top 30
abbrev st_law_due05 : Stmt := top 31
abbrev st_law_spoilt05 : Stmt := top 32
abbrev st_law_spot05 : Stmt := top 33
abbrev st_law_spot_due : Stmt := top 34
abbrev st_law_times_due : Stmt := top 35
abbrev st_law_right05 : Stmt := top 36
abbrev st_law_at_the_limit : Stmt := top 37
abbrev st_law05 : Stmt := top 38
def d_is_integer : He5.DefA := ⟨fun K => (He.ga K "is_integer"), "is_integer", "is_integer", defArgs st_is_integer, defBody st_is_integer, defScope st_is_integer, [], []⟩
def d_is_within : He5.DefA := ⟨fun K => (He.ga K "is_within"), "is_within", "is_within", defArgs st_is_within, defBody st_is_within, defScope st_is_within, [], []⟩
def d_is_word : He5.DefA := ⟨fun K => (He.ga K "is_word"), "is_word", "is_word", defArgs st_is_word, defBody st_is_word, defScope st_is_word, [.str "abcdefghijklmnopqrstuvwxyz"], []⟩
def d_is_row : He5.DefA := ⟨fun K => (He.ga K "is_row"), "is_row", "is_row", defArgs st_is_row, defBody st_is_row, defScope st_is_row, [], []⟩
def d_least_turning : He5.DefA := ⟨fun K => (He.ga K "least_turning"), "least_turning", "least_turning", defArgs st_least_turning, defBody st_least_turning, defScope st_least_turning, [], []⟩
def d_Ring_init : He5.DefA := ⟨fun K => (He.ma K (He.ga K "Ring") "__init__"), "__init__", "Ring.__init__", defArgs st_Ring_init, defBody st_Ring_init, defScope st_Ring_init, [], []⟩
def d_Ring_text : He5.DefA := ⟨fun K => (He5.wf K (He.ga K "Ring") "property" "text"), "text", "Ring.text", defArgs st_Ring_text, defBody st_Ring_text, defScope st_Ring_text, [], []⟩
def d_Ring_stretch : He5.DefA := ⟨fun K => (He.ma K (He.ga K "Ring") "stretch"), "stretch", "Ring.stretch", defArgs st_Ring_stretch, defBody st_Ring_stretch, defScope st_Ring_stretch, [], []⟩
def d_Ring_turned : He5.DefA := ⟨fun K => (He.ma K (He.ga K "Ring") "turned"), "turned", "Ring.turned", defArgs st_Ring_turned, defBody st_Ring_turned, defScope st_Ring_turned, [], []⟩
def d_Ring_len : He5.DefA := ⟨fun K => (He.ma K (He.ga K "Ring") "__len__"), "__len__", "Ring.__len__", defArgs st_Ring_len, defBody st_Ring_len, defScope st_Ring_len, [], []⟩
def d_Ring_eq : He5.DefA := ⟨fun K => (He.ma K (He.ga K "Ring") "__eq__"), "__eq__", "Ring.__eq__", defArgs st_Ring_eq, defBody st_Ring_eq, defScope st_Ring_eq, [], []⟩
def d_Ring_getitem : He5.DefA := ⟨fun K => (He.ma K (He.ga K "Ring") "__getitem__"), "__getitem__", "Ring.__getitem__", defArgs st_Ring_getitem, defBody st_Ring_getitem, defScope st_Ring_getitem, [], []⟩
def d_Ring_mul : He5.DefA := ⟨fun K => (He.ma K (He.ga K "Ring") "__mul__"), "__mul__", "Ring.__mul__", defArgs st_Ring_mul, defBody st_Ring_mul, defScope st_Ring_mul, [], []⟩
def d_Ring_add : He5.DefA := ⟨fun K => (He.ma K (He.ga K "Ring") "__add__"), "__add__", "Ring.__add__", defArgs st_Ring_add, defBody st_Ring_add, defScope st_Ring_add, [], []⟩
def d_law_cell : He5.DefA := ⟨fun K => (He.ga K "_law_cell"), "_law_cell", "_law_cell", defArgs st_law_cell, defBody st_law_cell, defScope st_law_cell, [], []⟩
def d_law_pool : He5.DefA := ⟨fun K => (He.ga K "_law_pool"), "_law_pool", "_law_pool", defArgs st_law_pool, defBody st_law_pool, defScope st_law_pool, [], []⟩
def d_law_draw : He5.DefA := ⟨fun K => (He.ga K "_law_draw"), "_law_draw", "_law_draw", defArgs st_law_draw, defBody st_law_draw, defScope st_law_draw, [], []⟩
def d_law_faceR : He5.DefA := ⟨fun K => (He.ga K "_law_face"), "_law_face", "_law_face", defArgs st_law_faceR, defBody st_law_faceR, defScope st_law_faceR, [], []⟩
def d_law_wholeK : He5.DefA := ⟨fun K => (He.ga K "_law_whole"), "_law_whole", "_law_whole", defArgs st_law_wholeK, defBody st_law_wholeK, defScope st_law_wholeK, [], []⟩
def d_law_odd : He5.DefA := ⟨fun K => (He.ga K "_law_odd"), "_law_odd", "_law_odd", defArgs st_law_odd, defBody st_law_odd, defScope st_law_odd, [], []⟩
def d_law_signs : He5.DefA := ⟨fun K => (He.ga K "_law_signs"), "_law_signs", "_law_signs", defArgs st_law_signs, defBody st_law_signs, defScope st_law_signs, [], []⟩
def d_law_word : He5.DefA := ⟨fun K => (He.ga K "_law_word"), "_law_word", "_law_word", defArgs st_law_word, defBody st_law_word, defScope st_law_word, [], []⟩
def d_law_long : He5.DefA := ⟨fun K => (He.ga K "_law_long"), "_law_long", "_law_long", defArgs st_law_long, defBody st_law_long, defScope st_law_long, [], []⟩
def d_law_is_word : He5.DefA := ⟨fun K => (He.ga K "_law_is_word"), "_law_is_word", "_law_is_word", defArgs st_law_is_word, defBody st_law_is_word, defScope st_law_is_word, [], []⟩
def d_law_heard05 : He5.DefA := ⟨fun K => (He.ga K "_law_heard"), "_law_heard", "_law_heard", defArgs st_law_heard05, defBody st_law_heard05, defScope st_law_heard05, [], []⟩
def d_law_due05 : He5.DefA := ⟨fun K => (He.ga K "_law_due"), "_law_due", "_law_due", defArgs st_law_due05, defBody st_law_due05, defScope st_law_due05, [], []⟩
def d_law_spoilt05 : He5.DefA := ⟨fun K => (He.ga K "_law_spoilt"), "_law_spoilt", "_law_spoilt", defArgs st_law_spoilt05, defBody st_law_spoilt05, defScope st_law_spoilt05, [], []⟩
def d_law_spot05 : He5.DefA := ⟨fun K => (He.ga K "_law_spot"), "_law_spot", "_law_spot", defArgs st_law_spot05, defBody st_law_spot05, defScope st_law_spot05, [], []⟩
def d_law_spot_due : He5.DefA := ⟨fun K => (He.ga K "_law_spot_due"), "_law_spot_due", "_law_spot_due", defArgs st_law_spot_due, defBody st_law_spot_due, defScope st_law_spot_due, [], []⟩
def d_law_times_due : He5.DefA := ⟨fun K => (He.ga K "_law_times_due"), "_law_times_due", "_law_times_due", defArgs st_law_times_due, defBody st_law_times_due, defScope st_law_times_due, [], []⟩
def d_law_right05 : He5.DefA := ⟨fun K => (He.ga K "_law_right"), "_law_right", "_law_right", defArgs st_law_right05, defBody st_law_right05, defScope st_law_right05, [], []⟩
def d_law_at_the_limit : He5.DefA := ⟨fun K => (He.ga K "_law_at_the_limit"), "_law_at_the_limit", "_law_at_the_limit", defArgs st_law_at_the_limit, defBody st_law_at_the_limit, defScope st_law_at_the_limit, [], []⟩
def d_law05 : He5.DefA := ⟨fun K => (He.ga K "law"), "law", "law", defArgs st_law05, defBody st_law05, defScope st_law05, [], []⟩
abbrev st_InvalidWord_init : Stmt := inClass (top 3) 0
def d_InvalidWord_init : He5.DefA := ⟨fun K => (He.ma K (He.ga K "InvalidWord") "__init__"), "__init__", "InvalidWord.__init__", defArgs st_InvalidWord_init, defBody st_InvalidWord_init, defScope st_InvalidWord_init, [], []⟩
abbrev st_InvalidPlace_init : Stmt := inClass (top 5) 0
def d_InvalidPlace_init : He5.DefA := ⟨fun K => (He.ma K (He.ga K "InvalidPlace") "__init__"), "__init__", "InvalidPlace.__init__", defArgs st_InvalidPlace_init, defBody st_InvalidPlace_init, defScope st_InvalidPlace_init, [], []⟩
abbrev st_InvalidNumber_init : Stmt := inClass (top 4) 0
def d_InvalidNumber_init : He5.DefA := ⟨fun K => (He.ma K (He.ga K "InvalidNumber") "__init__"), "__init__", "InvalidNumber.__init__", defArgs st_InvalidNumber_init, defBody st_InvalidNumber_init, defScope st_InvalidNumber_init, [], []⟩
abbrev st_NotARing_init : Stmt := inClass (top 6) 0
def d_NotARing_init : He5.DefA := ⟨fun K => (He.ma K (He.ga K "NotARing") "__init__"), "__init__", "NotARing.__init__", defArgs st_NotARing_init, defBody st_NotARing_init, defScope st_NotARing_init, [], []⟩
def fn : List He5.DefA := [d_is_integer, d_is_within, d_is_word, d_is_row, d_least_turning, d_Ring_init, d_Ring_text, d_Ring_stretch, d_Ring_turned, d_Ring_len, d_Ring_eq, d_Ring_getitem, d_Ring_mul, d_Ring_add, d_law_cell, d_law_pool, d_law_draw, d_law_faceR, d_law_wholeK, d_law_odd, d_law_signs, d_law_word, d_law_long, d_law_is_word, d_law_heard05, d_law_due05, d_law_spoilt05, d_law_spot05, d_law_spot_due, d_law_times_due, d_law_right05, d_law_at_the_limit, d_law05, d_InvalidWord_init, d_InvalidPlace_init, d_InvalidNumber_init, d_NotARing_init]
def fa : List He.Fa := [.glo "is_integer", .glo "is_within", .glo "is_word", .glo "is_row", .glo "least_turning", .glo "_law_cell", .glo "_law_pool", .glo "_law_draw", .glo "_law_face", .glo "_law_whole", .glo "_law_odd", .glo "_law_signs", .glo "_law_word", .glo "_law_long", .glo "_law_is_word", .glo "_law_heard", .glo "_law_due", .glo "_law_spoilt", .glo "_law_spot", .glo "_law_spot_due", .glo "_law_times_due", .glo "_law_right", .glo "_law_at_the_limit", .glo "law", .glo "InvalidNumber", .glo "InvalidPlace", .glo "InvalidWord", .int "MOST_WORD" 600, .glo "NotARing", .glo "Ring", .free "abs", .free "all", .free "bool", .free "dict", .free "divmod", .free "int", .free "isinstance", .free "len", .free "list", .free "max", .free "min", .free "range", .free "str", .free "tuple", .cls "Ring", .noat "Ring" "least", .mkr "Ring", .meth "Ring" "stretch", .meth "Ring" "turned"]
def ex : List Fx := [insB "Ring", noB "Ring", selfB "Ring", excKB "InvalidWord" "given", excKB "InvalidPlace" "given", excKB "InvalidNumber" "given", excKB "NotARing" "given", tabsDB ["_law_right", "_law_at_the_limit"], exmAllB ["InvalidWord", "InvalidPlace", "InvalidNumber", "NotARing"], kitTB "Ring", propB "Ring" "text", specB "Ring" "__len__", specB "Ring" "__eq__", specB "Ring" "__getitem__", (fun K => PySem.W.fnIn K (He.ma K (He.ga K "Ring") "__getitem__")), binB "Ring" "mul" "int", binBs "Ring" "mul", specB "Ring" "__add__", binBs "Ring" "add"]
def looseN : List Str := (["_wall", "WrongValue", "InvalidWord", "InvalidNumber", "InvalidPlace", "NotARing", "WrongName", "NoAnswer", "MOST_WORD", "LETTERS", "is_integer", "is_within", "is_word", "is_row", "least_turning"] : List Str) ++ (["Ring", "_law_cell", "_law_pool", "_law_draw", "_law_face", "_law_whole", "_law_odd", "_law_signs", "_law_word", "_law_long", "_law_is_word", "_law_heard", "_law_due", "_law_spoilt", "_law_spot"] : List Str) ++ (["_law_spot_due", "_law_times_due", "_law_right", "_law_at_the_limit"] : List Str)
abbrev RR : PySem.W.OpenRow := PySem.W.OpenLaw.row PySem.Challenge.rw_wherebegun_k05_rings_refused
def tabL : List Str := ["_law_right", "_law_at_the_limit"]
def tf : List He.Defn := tabL.map fun x => (x, none)
abbrev hk : PySem.W.Hook := hookWT 6 fa fn ex tf
def ob (s : PySem.W.SharedT) : AlWT := obsWT 6 fa fn ex tf (HandSHeadRun.getT s)
theorem ob_eq (s : PySem.W.SharedT) : ob s = hk.obs s.abs := obsWT_eq (HandSHeadRun.getT_eq s)
theorem runH (w : World) : HandSHeadRun.RunEq RR (PySem.W.view RR.prog [38]) hk ob 20000 looseN w := by
  intro os
  kernel_rfl
end WB
namespace WB
open PySem PySem.Spec PyProof.Rows L2
local macro_rules | `(tactic| walk_at "lit") => `(tactic| first | exact lit_abc | exact lit_empty)
local macro_rules | `(tactic| walk_at "nm") => `(tactic| focus first | exact List.not_mem_nil | (simp only [List.mem_singleton]; first | assumption | (exact Ne.symm (by assumption)) | (intro hz; subst hz; simp_all; done)))
local macro_rules | `(tactic| walk_at "hp") => `(tactic| first | assumption | (apply Ex.get0 (by assumption); walk_at "hp") | (apply Ex.get (by assumption); (walk_at "nm"); (walk_at "hp")))
local macro_rules | `(tactic| walk_at "sq") => `(tactic| first | assumption | (apply SqL.of; walk_at "hp") | (apply Ex.sqL (by assumption); (walk_at "nm"); (walk_at "sq")))
local macro_rules | `(tactic| walk_at "sqt") => `(tactic| first | assumption | (apply SqT.of; walk_at "hp") | (apply Ex.sqT (by assumption); (walk_at "nm"); (walk_at "sqt")))
local macro_rules | `(tactic| walk_at "sz") => `(tactic| focus ((with_reducible refine Nat.le_trans (m := 100000) ?_ (by decide)); first | omega | (simp; done) | (simp; omega)))
local macro_rules | `(tactic| walk_at "mul") => `(tactic| first | exact Or.inr ⟨by omega, by omega⟩ | exact Or.inl ⟨by omega, by omega⟩)
local macro_rules | `(tactic| walk_at "pool") => `(tactic| first | assumption | (apply PoolAt.ex (by assumption); (walk_at "nm"); (walk_at "pool")))
local macro_rules | `(tactic| walk_at "ring") => `(tactic| first | assumption | (apply RingAt.ex (by assumption); (walk_at "nm"); (walk_at "ring")))
local macro_rules | `(tactic| walk_at "st") => `(tactic| first
  | with_reducible refine s_seq ?_
  | with_reducible refine s_asg ?_
  | with_reducible refine s_gName ?_
  | with_reducible refine s_ret ?_
  | with_reducible refine s_ifS ?_
  | with_reducible refine s_next ?_
  | with_reducible refine s_op ?_
  | ((with_reducible apply s_var); exact rfl)
  | ((with_reducible apply s_cS); (walk_at "lit"))
  | with_reducible refine s_c ?_
  | with_reducible refine s_cb ?_
  | with_reducible refine s_cons ?_
  | with_reducible refine s_nil ?_
  | with_reducible refine s_un ?_
  | with_reducible refine s_call ?_
  | with_reducible refine s_test ?_
  | with_reducible refine s_tB ?_
  | with_reducible refine s_blQ ?_
  | with_reducible refine s_not ?_
  | with_reducible refine s_and ?_
  | with_reducible refine s_or ?_
  | with_reducible refine s_andV ?_
  | with_reducible refine s_orV ?_
  | with_reducible refine s_notV ?_
  | with_reducible refine s_ifE ?_
  | with_reducible refine s_chain ?_
  | ((with_reducible refine s_T ?_ ?_); (with_reducible exact rfl))
  | with_reducible refine s_nT ?_
  | with_reducible refine s_nF ?_
  | ((with_reducible refine s_F ?_ ?_); (with_reducible exact rfl))
  | ((with_reducible refine s_T ?_ ?_); assumption)
  | ((with_reducible refine s_F ?_ ?_); assumption)
  | ((with_reducible refine s_nB ?_ ?_); assumption)
  | ((with_reducible refine s_nA ?_ ?_); assumption)
  | ((with_reducible refine s_Td ?_ ?_); omega)
  | ((with_reducible refine s_Fd ?_ ?_); omega)
  | ((with_reducible refine s_nTd ?_ ?_); omega)
  | ((with_reducible refine s_nFd ?_ ?_); omega)
  | with_reducible refine s_sfld ?_
  | with_reducible refine s_addI ?_
  | with_reducible refine s_subI ?_
  | ((with_reducible refine s_mulI ?_ ?_); (walk_at "mul"))
  | ((with_reducible refine s_divI ?_ ?_); exact ⟨by omega, by omega⟩)
  | ((with_reducible refine s_modI ?_ ?_); omega)
  | ((with_reducible refine s_powI ?_ ?_); exact ⟨by decide, by decide, by decide⟩)
  | with_reducible refine s_ltI ?_
  | with_reducible refine s_leI ?_
  | with_reducible refine s_gtI ?_
  | with_reducible refine s_geI ?_
  | with_reducible refine s_negI ?_
  | with_reducible refine s_absI ?_
  | with_reducible refine s_intI ?_
  | with_reducible refine s_min2 ?_
  | with_reducible refine s_max2 ?_
  | with_reducible refine s_eqI ?_
  | with_reducible refine s_neI ?_
  | with_reducible refine s_eqS ?_
  | with_reducible refine s_neS ?_
  | with_reducible refine s_inSg ?_
  | with_reducible refine s_notInSg ?_
  | ((with_reducible refine s_addS ?_ ?_); (walk_at "sz"))
  | ((with_reducible refine s_lenS ?_ ?_); (walk_at "sz"))
  | ((with_reducible apply s_lenL); (walk_at "sq"))
  | ((with_reducible apply s_lenT); (walk_at "sqt"))
  | ((with_reducible apply s_ixL); (walk_at "sq"); exact rfl)
  | ((with_reducible apply s_ixT); (walk_at "sqt"); exact rfl)
  | with_reducible refine s_gSub ?_
  | ((with_reducible apply s_setL); (walk_at "hp"); (exact rfl); (intro _ _ _))
  | ((with_reducible refine s_alloc ?_ ?_); (walk_at "sz"); (intro _ _ _ _ _))
  | ((with_reducible refine s_divmod ?_ ?_); (exact ⟨by omega, PyProof.noPylong_small (by omega)⟩); (intro _ _ _ _ _))
  | ((with_reducible apply s_gTup); (walk_at "sqt"); (exact rfl))
  | ((with_reducible apply s_gLst); (walk_at "sq"); (exact rfl))
  | with_reducible refine s_gCons ?_
  | with_reducible refine s_gNil ?_
  | with_reducible refine s_lc ?_
  | ((with_reducible apply s_cat); (walk_at "hp"); (walk_at "hp"); (walk_at "sz"); (intro _ _ _ _ _))
  | ((with_reducible apply s_slL); (walk_at "sq"); (intro _ _ _ _ _))
  | with_reducible refine s_for ?_
  | with_reducible refine s_rng1 ?_
  | ((with_reducible refine s_rng1i ?_ ?_); (constructor <;> omega))
  | with_reducible refine s_rng2 ?_
  | ((with_reducible refine s_rng2i ?_ ?_); (refine ⟨?_, ?_, ?_, ?_⟩ <;> omega))
  | with_reducible refine s_iStr ?_
  | with_reducible refine s_iStrS ?_
  | with_reducible refine s_iList ?_
  | ((with_reducible apply s_iListA); (walk_at "sq"))
  | with_reducible refine s_iTup ?_
  | ((with_reducible apply s_iTupA); (walk_at "sqt"))
  | with_reducible refine s_sl ?_
  | with_reducible refine s_noPart ?_
  | with_reducible refine s_part ?_
  | with_reducible refine s_int1 ?_
  | ((with_reducible refine s_slS ?_ ?_); (walk_at "sz"))
  | with_reducible refine s_tup ?_
  | with_reducible refine s_lst ?_
  | with_reducible refine s_par ?_
  | with_reducible refine s_pair ?_
  | with_reducible refine s_M1 ?_
  | with_reducible refine s_isStr ?_
  | with_reducible refine s_revS ?_
  | ((with_reducible refine s_revS1 ?_ ?_); (walk_at "sz"))
  | with_reducible refine s_fldE ?_
  | with_reducible refine s_propE ?_
  | ((with_reducible refine u_draw ?_ ?_ ?_ ?_); omega; omega; (walk_at "pool"); (intro _ _ _ _ _ _))
  | ((with_reducible refine u_pool ?_); (intro _ _ _ _ _))
  | with_reducible refine u_is_integer ?_
  | with_reducible refine s_isiII ?_
  | with_reducible refine s_isiIB ?_
  | with_reducible refine s_isiSS ?_
  | ((with_reducible apply u_fldRing); assumption; (walk_at "ring"))
  | ((with_reducible apply u_textP); (walk_at "ring"))
  | ((with_reducible apply u_strRing); (walk_at "ring"))
  | ((with_reducible apply u_eqRing); (walk_at "ring"); (walk_at "ring"))
  | ((with_reducible apply u_isiRing); assumption; (walk_at "ring"))
  | ((with_reducible refine u_is_word ?_ ?_); omega; (intro _ _))
  | ((with_reducible refine u_turnings ?_ ?_); omega; (intro _ _ _ _ _))
  | with_reducible refine s_makeE ?_
  | with_reducible refine s_methE ?_)
local macro_rules | `(tactic| walk_at "go") => `(tactic| repeat (walk_at "st"))
local macro_rules | `(tactic| walk_at "exs") => `(tactic| first | exact Ex.rfl | assumption | (apply Ex.snoc (by assumption); walk_at "exs") | (apply Ex.snocW (by assumption); walk_at "exs"))
def t_is_integer (K : PySem.W.Frag) : TS :=
  (tRet (tAndV (tCB (rIsi K) (tCons (tVar 0) (tCons (tC (.ty "int")) tNil))) (tNotV (tCB (rIsi K) (tCons (tVar 0) (tCons (tC (.ty "bool")) tNil))))))
def t_is_word (K : PySem.W.Frag) : TS :=
  (tSeq (tIfS (tOr (tNot (tB (tCB (rIsi K) (tCons (tVar 0) (tCons (tC (.ty "str")) tNil))))) (tNot (tTest (tChain rLeI rLeI (tC (.int 1)) (tCB (rLenV K) (tCons (tVar 0) tNil)) (tC (.int 600)))))) (tRet (tC (.bl false))) tNext)
  (tRet (tCB (rAll K) (tCons (tLc (iStr (tVar 0)) (gName 2) tYes (tOp rInSg (tVar 2) (tVar 1)) [2]) tNil))))
def t_least_turning (K : PySem.W.Frag) : TS :=
  (tRet (tCB (rMinS K) (tCons (tLc (iRng1 (tCons (tCB (rLenV K) (tCons (tVar 0) tNil)) tNil)) (gName 1) tYes (tOp rAddS (tSl rSlS (tVar 0) (tPart (tVar 1)) tNoPart) (tSl rSlS (tVar 0) tNoPart (tPart (tVar 1)))) [1]) tNil)))
def t_Ring_init (K : PySem.W.Frag) : TS :=
  (tSeq (tIfS (tNot (tB (tCall (sp_is_word K) [(vS LET)] E0 (tCons (tVar 1) tNil)))) tNever tNext)
  (sFld K (tVar 0) (tCall (sp_least_turning K) [] E0 (tCons (tVar 1) tNil)) "least"))
def t_Ring_text (K : PySem.W.Frag) : TS :=
  (tRet (tFld K (tVar 0) "least"))
def t_Ring_len (K : PySem.W.Frag) : TS :=
  (tRet (tCB (rLenV K) (tCons (tFld K (tVar 0) "least") tNil)))
def t_Ring_eq (K : PySem.W.Frag) : TS :=
  (tRet (tAndV (tCB (rIsi K) (tCons (tVar 1) (tCons (tC (.ref (He.ga K "Ring"))) tNil))) (tOp rEq (tFld K (tVar 0) "least") (tFld K (tVar 1) "least"))))
def t_Ring_mul (K : PySem.W.Frag) : TS :=
  (tSeq (tIfS (tOr (tNot (tB (tCall (sp_is_integer K) [] E0 (tCons (tVar 1) tNil)))) (tTest (tOp rLtI (tVar 1) (tC (.int 1))))) tNever tNext)
  (tSeq (tIfS (tTest (tOp rGtI (tOp rMulI (tCB (rLenV K) (tCons (tFld K (tVar 0) "least") tNil)) (tVar 1)) (tC (.int 600)))) tNever tNext)
  (tRet (tMake (He.ga K "Ring") (sp_Ring_init K) [] E0 (tCons (tOp rMulS (tFld K (tVar 0) "least") (tVar 1)) tNil)))))
def t_Ring_add (K : PySem.W.Frag) : TS :=
  (tSeq (tIfS (tNot (tB (tCB (rIsi K) (tCons (tVar 1) (tCons (tC (.ref (He.ga K "Ring"))) tNil))))) tNever tNext)
  (tSeq (tIfS (tTest (tOp rGtI (tOp rAddI (tCB (rLenV K) (tCons (tFld K (tVar 0) "least") tNil)) (tCB (rLenV K) (tCons (tFld K (tVar 1) "least") tNil))) (tC (.int 600)))) tNever tNext)
  (tRet (tMake (He.ga K "Ring") (sp_Ring_init K) [] E0 (tCons (tOp rAddS (tFld K (tVar 0) "least") (tFld K (tVar 1) "least")) tNil)))))
def t_law_cell (K : PySem.W.Frag) : TS :=
  (tSeq (tIfS (tTest (tOp rLtI (tVar 1) (tCB (rLenV K) (tCons (tVar 0) tNil)))) (tRet (tOp (rIxL K) (tVar 0) (tVar 1))) tNext)
  (tSeq (tAsg (tOp rAddI (tC (.int 70001)) (tOp rMulI (tOp rMulI (tC (.int 4093)) (tVar 1)) (tVar 1))) (gName 2))
  (tSeq (tFor (iList K (tSl (rSlL K) (tVar 0) tNoPart (tPart (tC (.int 4))))) (gName 3) (tAsg (tOp rModI (tCB rIntI (tCons (tOp rAddI (tOp rMulI (tVar 2) (tC (.int 521))) (tVar 3)) tNil)) (tC (.int 2147483629))) (gName 2)))
  (tRet (tVar 2)))))
def t_law_pool (K : PySem.W.Frag) : TS :=
  (tSeq (tAsg (tIf (tOr (tTest (tOp rLtI (tVar 0) (tC (.int 0)))) (tTest (tOp rGeI (tVar 0) (tOp rPowI (tC (.int 10)) (tC (.int 18)))))) (tCB rAbsI (tCons (tVar 0) tNil)) (tC (.int 0))) (gName 1))
  (tRet (tLst (tCons (tOp rModI (tCB rIntI (tCons (tVar 0) tNil)) (tC (.int 2147483587))) (tCons (tVar 1) (tCons (tC (.int 0)) tNil))))))
def t_law_draw (K : PySem.W.Frag) : TS :=
  (tSeq (tAsg (tOp rAddI (tOp (rIxL K) (tVar 0) (tC (.int 2))) (tC (.int 1))) (gSub (tVar 0) (tC (.int 2)) rSetL))
  (tSeq (tAsg (tOp rModI (tCB rIntI (tCons (tOp rAddI (tOp rAddI (tOp rMulI (tOp (rIxL K) (tVar 0) (tC (.int 0))) (tC (.int 50021))) (tOp rMulI (tOp (rIxL K) (tVar 0) (tC (.int 2))) (tC (.int 69067)))) (tC (.int 31))) tNil)) (tC (.int 2147483587))) (gName 2))
  (tSeq (tAsg (tOp rModI (tCB rIntI (tCons (tOp rMulI (tVar 2) (tOp rAddI (tOp rDivI (tVar 2) (tC (.int 1024))) (tC (.int 12829)))) tNil)) (tC (.int 2147483629))) (gSub (tVar 0) (tC (.int 0)) rSetL))
  (tSeq (tIfS (tTest (tOp rGtI (tOp (rIxL K) (tVar 0) (tC (.int 1))) (tC (.int 0)))) (tSeq (tAsg (tCB rDivmod (tCons (tOp (rIxL K) (tVar 0) (tC (.int 1))) (tCons (tVar 1) tNil))) (gTup K 2 (gCons (gSub (tVar 0) (tC (.int 1)) rSetL) (gCons (gName 3) gNil))))
  (tRet (tVar 3))) tNext)
  (tRet (tOp rModI (tCB rIntI (tCons (tOp rDivI (tOp (rIxL K) (tVar 0) (tC (.int 0))) (tC (.int 53))) tNil)) (tVar 1)))))))
def t_law_signs (K : PySem.W.Frag) : TS :=
  (tSeq (tAsg (tC (.str "")) (gName 2))
  (tSeq (tFor (iRng1 (tCons (tOp rAddI (tC (.int 1)) (tCall (sp_law_draw K) [] E0 (tCons (tVar 0) (tCons (tVar 1) tNil)))) tNil)) (gName 3) (tSeq (tAsg (tLc (iStr (tC (.str "abcdefghijklmnopqrstuvwxyz"))) (gName 5) (tTest (tOp rNotInSg (tVar 5) (tVar 2))) (tVar 5) [5]) (gName 4))
  (tAsg (tOp rAddS (tVar 2) (tOp (rIxL K) (tVar 4) (tCall (sp_law_draw K) [] E0 (tCons (tVar 0) (tCons (tCB (rLenV K) (tCons (tVar 4) tNil)) tNil))))) (gName 2))))
  (tRet (tVar 2))))
def t_law_word (K : PySem.W.Frag) : TS :=
  (tRet (tM1 (rJoin K) (tC (.str "")) (tLc (iRng1 (tCons (tOp rAddI (tC (.int 1)) (tCall (sp_law_draw K) [] E0 (tCons (tVar 0) (tCons (tVar 2) tNil)))) tNil)) (gName 3) tYes (tOp rIxS (tVar 1) (tCall (sp_law_draw K) [] E0 (tCons (tVar 0) (tCons (tCB (rLenV K) (tCons (tVar 1) tNil)) tNil)))) [3])))
abbrev E1 (Q : VK) : Ends := ⟨fun _ H' => Q .non H', Q, fun _ _ => False, fun _ _ => False⟩
section
variable {K : PySem.W.Frag} {vs : List V} {H : Hp} {Q : VK} {E : XK}
theorem pure_law_draw (h : sp_law_draw K vs H Q E) : t_law_draw K (E1 Q) (start ["_law_pool_here", "_law_many", "_law_mixed", "_law_digit"] vs) H := by
  obtain ⟨a, m, rfl, h0, h1, ⟨x, y, z, hp⟩, k⟩ := h
  show t_law_draw K (E1 Q) [some (.ref a), some (.int m), none, none] H
  unfold t_law_draw
  walk_at "go"
  refine s_2 (fun hb => ?_) (fun hb => ?_)
  · walk_at "go"
    exact k _ _ (Int.emod_nonneg _ (by omega)) (Int.emod_lt_of_pos _ h0) (by walk_at "exs") ⟨_, _, _, by walk_at "hp"⟩
  · walk_at "go"
    exact k _ _ (Int.emod_nonneg _ (by omega)) (Int.emod_lt_of_pos _ h0) (by walk_at "exs") ⟨_, _, _, by walk_at "hp"⟩
theorem pure_law_pool (h : sp_law_pool K vs H Q E) : t_law_pool K (E1 Q) (start ["_law_cell_here", "_law_digits"] vs) H := by
  obtain ⟨c, rfl, k⟩ := h
  show t_law_pool K (E1 Q) [some (.int c), none] H
  unfold t_law_pool
  walk_at "go"
  refine s_2 (fun hb => ?_) (fun hb => ?_)
  · walk_at "go"
    exact k _ _ (by assumption) (by walk_at "exs") ⟨_, _, _, by walk_at "hp"⟩
  · walk_at "go"
    refine s_2 (fun hb => ?_) (fun hb => ?_)
    · walk_at "go"
      exact k _ _ (by assumption) (by walk_at "exs") ⟨_, _, _, by walk_at "hp"⟩
    · walk_at "go"
      exact k _ _ (by assumption) (by walk_at "exs") ⟨_, _, _, by walk_at "hp"⟩
theorem pure_law_cell (h : sp_law_cell K vs H Q E) : t_law_cell K (E1 Q) (start ["_law_script", "_law_k", "_law_mixed", "_law_cell_here"] vs) H := by
  obtain ⟨a, ns, n, rfl, hs, hl, h0, h1, k⟩ := h
  show t_law_cell K (E1 Q) [some (.ref a), some (.int n), none, none] H
  unfold t_law_cell
  walk_at "go"
  refine s_2 (fun hb => ?_) (fun hb => ?_)
  · have hb := of_decide_eq_true hb
    rw [List.length_map] at hb
    have hx : ns[n.toNat]? = some (ns[n.toNat]'(by omega)) := List.getElem?_eq_getElem _
    walk_at "go"
    refine s_ixL hs (atI_of h0 (by rw [List.getElem?_map, hx]; rfl)) ?_
    exact k _ _ Ex.rfl
  · walk_at "go"
    rename_i p H2 hp e2 h2
    refine for_run walk_list (fun i σ H1 => ∃ (c : Int) (x : Option V), σ = [some (.ref a), some (.int n), some (.int c), x] ∧ Ex [] H H1 ∧ H1 p = some (.lst (cutV (ns.map V.int) none (some 4)))) ⟨_, none, rfl, e2, h2⟩ (fun i σ H1 _ ⟨_, _, _, _, h⟩ => SqL.of h) ?_ ?_
    · rintro i x σ H1 H3 hi ⟨c, y, rfl, e, hc⟩ ⟨rfl, hx⟩
      obtain ⟨z, _, rfl⟩ := List.mem_map.mp (mem_cutV (List.mem_of_getElem? hx))
      walk_at "go"
      exact ⟨_, _, rfl, e, hc⟩
    · rintro σ H1 ⟨c, y, rfl, e, hc⟩
      walk_at "go"
      exact k _ _ e
end
section
variable {K : PySem.W.Frag} {vs : List V} {H : Hp} {Q : VK} {E : XK}
theorem four_left {l : List Nat} (h : l.length ≤ 3) : (LET.filter fun c => !decide (c ∈ l)) ≠ [] := by
  intro e
  have h1 : ∀ c ∈ LET, c ∈ l := fun c hc => by
    rcases Classical.em (c ∈ l) with z | z
    · exact z
    · have : c ∈ LET.filter fun c => !decide (c ∈ l) := List.mem_filter.mpr ⟨hc, by simp [z]⟩
      rw [e] at this
      cases this
  have a := h1 97 (by decide)
  have b := h1 98 (by decide)
  have c := h1 99 (by decide)
  have d := h1 100 (by decide)
  match l, h with
  | [], _ => cases a
  | [x], _ => simp at a b; omega
  | [x, y], _ => simp at a b c; omega
  | [x, y, z], _ => simp at a b c d; omega
theorem pure_law_signs (h : sp_law_signs K vs H Q E) : t_law_signs K (E1 Q) (start ["_law_pool_here", "_law_most", "_law_found", "_law_turn", "_law_rest", "_law_mark"] vs) H := by
  obtain ⟨a, m, rfl, h0, h1, hp, k⟩ := h
  show t_law_signs K (E1 Q) [some (.ref a), some (.int m), none, none, none, none] H
  unfold t_law_signs
  walk_at "go"
  rename_i r H1 r0 r1 e1 p1
  refine for_run walk_range (fun i σ H2 => ∃ (f : List Nat) (x y z : Option V), σ = [some (.ref a), some (.int m), some (vS f), x, y, z] ∧ f.length = i ∧ (∀ c ∈ f, c ∈ LET) ∧ f.Nodup ∧ Ex [a] H H2 ∧ PoolAt H2 a) ⟨[], none, none, none, rfl, rfl, by simp, by simp, e1, p1⟩ (fun _ _ _ _ _ => trivial) ?_ ?_
  · rintro i x σ H2 H3 hi ⟨f, y, z, u, rfl, hf, hs, hd, e2, p2⟩ ⟨rfl, rfl⟩
    walk_at "go"
    refine lc_mapS (by decide) (fun c => !decide (c ∈ f)) (fun c => vS [c]) (fun c H4 C1 C0 hc e4 k1 k0 => ?_) (fun D H4 hD e4 hd4 => ?_)
    · walk_at "go"
      refine s_2 (fun hb => ?_) (fun hb => ?_)
      · walk_at "go"
        exact k1 _ Ex.rfl hb
      · exact k0 _ Ex.rfl hb
    · walk_at "go"
      have hne : D ≠ a := fun z => p2.there (z ▸ hD)
      have hL : (LET.filter fun c => !decide (c ∈ f)) ≠ [] := four_left (by omega)
      have hm : ∀ c ∈ (LET.filter fun c => !decide (c ∈ f)), c ∈ LET ∧ c ∉ f := fun c hc => by
        obtain ⟨h1, h2⟩ := List.mem_filter.mp hc
        exact ⟨h1, by simpa using h2⟩
      have hz : (LET.filter fun c => !decide (c ∈ f)).length ≤ 26 := List.length_filter_le _ _
      revert hd4 hL hm hz
      generalize (LET.filter fun c => !decide (c ∈ f)) = L
      intro hd4 hL hm hz
      have h0L : 0 < L.length := List.length_pos_iff.mpr hL
      rw [List.length_map]
      walk_at "go"
      rename_i r2 H5 r20 r21 e5 p5
      obtain ⟨c, hc⟩ : ∃ c, L[r2.toNat]? = some c := ⟨_, List.getElem?_eq_getElem (by omega)⟩
      refine s_ixL (xs := L.map fun c => vS [c]) (by walk_at "sq") (atI_of r20 (by rw [List.getElem?_map, hc]; rfl)) ?_
      obtain ⟨c1, c2⟩ := hm c (List.mem_of_getElem? hc)
      walk_at "go"
      refine ⟨f ++ [c], _, _, _, rfl, by rw [List.length_append, hf]; rfl, fun x hx => ?_, ?_, by walk_at "exs", p5⟩
      · rcases List.mem_append.mp hx with hx | hx
        · exact hs x hx
        · rw [List.mem_singleton.mp hx]; exact c1
      · exact List.nodup_append.mpr ⟨hd, by simp, fun x hx y hy => by rw [List.mem_singleton.mp hy]; intro z; exact c2 (z ▸ hx)⟩
  · rintro σ H2 ⟨f, y, z, u, rfl, hf, hs, hd, e2, p2⟩
    walk_at "go"
    refine k f _ ?_ ?_ hs hd e2 p2
    · intro e
      subst e
      simp at hf
      omega
    · rw [hf]; omega
theorem pure_law_word (h : sp_law_word K vs H Q E) : t_law_word K (E1 Q) (start ["_law_pool_here", "_law_abc", "_law_most", "_law_turn"] vs) H := by
  obtain ⟨a, abc, m, rfl, ha, hl, h0, h1, hp, k⟩ := h
  show t_law_word K (E1 Q) [some (.ref a), some (vS abc), some (.int m), none] H
  unfold t_law_word
  walk_at "go"
  rename_i r H1 r0 r1 e1 p1
  have hal : 0 < abc.length := List.length_pos_iff.mpr ha
  refine lc_run walk_range (by omega) [a] (fun H2 => PoolAt H2 a) (fun i acc _ => ∃ ls : List Nat, acc = ls.map (fun c => vS [c]) ∧ ls.length = i ∧ ∀ c ∈ ls, c ∈ abc) (fun b hb => by rw [List.mem_singleton.mp hb]; exact p1.there) p1 ⟨[], rfl, rfl, by simp⟩
    (fun H2 D o n h => h.upd n) (fun _ _ _ _ _ _ h => h) (fun _ _ => trivial) ?_ ?_
  · rintro i acc x H2 H3 C1 C0 hi e2 p2 ⟨ls, rfl, hls, hin⟩ ⟨rfl, rfl⟩ k1 k0
    refine ⟨wipe1 _ _ _, ?_⟩
    refine s_yes ?_
    walk_at "go"
    rename_i r2 H5 r20 r21 e5 p5
    obtain ⟨c, hc⟩ : ∃ c, abc[r2.toNat]? = some c := ⟨_, List.getElem?_eq_getElem (by omega)⟩
    refine s_ixS (by walk_at "sz") (atI_of r20 hc) ?_
    refine k1 _ _ e5 p5 ⟨ls ++ [c], by rw [List.map_append]; rfl, by rw [List.length_append, hls]; rfl, fun x hx => ?_⟩
    rcases List.mem_append.mp hx with hx | hx
    · exact hin x hx
    · rw [List.mem_singleton.mp hx]; exact List.mem_of_getElem? hc
  · rintro D H2 ys hD e2 p2 hd hyl ⟨ls, rfl, hls, hin⟩
    have hfl := flat1 ls
    refine s_join0 (ls := ls.map fun c => [c]) ?_ (by rw [hfl]; omega) ?_
    · rw [List.map_map]; exact SqL.of hd
    · rw [hfl]
      refine k ls _ ?_ (by rw [hls]; omega) hin (by walk_at "exs") p2
      intro e
      subst e
      simp at hls
      omega
end
section
variable {K : PySem.W.Frag} {vs : List V} {H : Hp} {Q : VK} {E : XK}
theorem pure_is_integer (h : sp_is_integer K vs H Q E) : t_is_integer K (E1 Q) (start ["value"] vs) H := by
  obtain ⟨v, n, rfl, hk, k⟩ := h
  show t_is_integer K (E1 Q) [some v] H
  unfold t_is_integer
  walk_at "go"
  have hn := hk.2
  simp only [KD, List.mem_cons, List.not_mem_nil, or_false] at hn
  rcases hn with rfl | rfl | rfl | rfl | rfl | rfl | rfl
  · refine s_isiK hk (b := true) (by decide +kernel) ?_
    walk_at "go"
    refine s_isiK hk (b := false) (by decide +kernel) ?_
    walk_at "go"
    exact k
  · refine s_isiK hk (b := true) (by decide +kernel) ?_
    walk_at "go"
    refine s_isiK hk (b := true) (by decide +kernel) ?_
    walk_at "go"
    exact k
  all_goals
    refine s_isiK hk (b := false) (by decide +kernel) ?_
    walk_at "go"
    exact k
theorem pure_is_word (h : sp_is_word K vs H Q E) : t_is_word K (E1 Q) (start ["value", "signs", "sign"] vs) H := by
  obtain ⟨v, s, rfl, h⟩ := h
  show t_is_word K (E1 Q) [some v, some (vS s), none] H
  unfold t_is_word
  rcases h with ⟨l, rfl, hl, k⟩ | ⟨n, hk, hn, k⟩
  rotate_left
  · walk_at "go"
    have hb := kitB_str hk.2 hn
    refine s_isiK hk (b := false) hb ?_
    walk_at "go"
    exact k
  walk_at "go"
  refine s_2 (fun hb => ?_) (fun hb => ?_)
  · have hb := of_decide_eq_true hb
    walk_at "go"
    refine s_2 (fun hb2 => ?_) (fun hb2 => ?_)
    · have hb2 : ¬ (l.length : Int) ≤ 600 := by simpa using hb2
      walk_at "go"
      have e : isWord l s = false := by
        unfold isWord
        rw [decide_eq_false (by omega)]
        rfl
      rw [← e]
      exact k _ Ex.rfl
    · have hb2 : (l.length : Int) ≤ 600 := by simpa using hb2
      walk_at "go"
      refine lc_mapS (by omega) (fun _ => true) (fun c => .bl (decide (c ∈ s))) (fun c H4 C1 C0 hc e4 k1 k0 => ?_) (fun D H4 hD e4 hd4 => ?_)
      · refine s_yes ?_
        walk_at "go"
        exact k1 _ Ex.rfl rfl
      · walk_at "go"
        have e : isWord l s = ((l.filter fun _ => true).map fun c => decide (c ∈ s)).all id := by
          unfold isWord
          rw [decide_eq_true (by omega), Bool.true_and, List.all_map, List.filter_eq_self.mpr (by simp)]
          rfl
        refine s_all (bs := (l.filter fun _ => true).map fun c => decide (c ∈ s)) ?_ ?_
        · rw [List.map_map]
          exact SqL.of hd4
        · rw [← e]
          exact k _ e4
  · have hb : ¬ 1 ≤ (l.length : Int) := of_decide_eq_false hb
    refine s_blQ ?_
    walk_at "go"
    have e : isWord l s = false := by
      unfold isWord
      rw [decide_eq_false (by omega)]
      rfl
    rw [← e]
    exact k _ Ex.rfl
theorem pure_least_turning (h : sp_least_turning K vs H Q E) : t_least_turning K (E1 Q) (start ["text", "place"] vs) H := by
  obtain ⟨l, rfl, h0, hl, k⟩ := h
  show t_least_turning K (E1 Q) [some (vS l), none] H
  unfold t_least_turning
  walk_at "go"
  refine lc_mapR (by omega) (fun i => vS (rot l i)) (fun i H1 C hi e kk => ?_) (fun D H' hD e hd => ?_)
  · walk_at "go"
    rw [cut_from (by omega), cut_to (by omega), show ((0 : Int) + (i : Int)).toNat = i by omega]
    refine s_addS ?_ (kk _ Ex.rfl)
    rw [List.length_drop, List.length_take]
    walk_at "sz"
  · have e0 : (rots l).map vS = List.map (fun i => vS (rot l i)) (List.range (↑l.length : Int).toNat) := by
      unfold rots
      rw [List.map_map, Int.toNat_natCast]
      rfl
    rw [← e0] at hd
    have kk := k H' e
    unfold leastT at kk
    cases hr : rots l with
    | nil =>
      exfalso
      apply h0
      have := congrArg List.length hr
      unfold rots at this
      simpa using this
    | cons x xs =>
      rw [hr] at kk hd
      exact s_minS (SqL.of hd) kk
variable (F : RingK K)
include F
theorem pure_Ring_text (h : sp_Ring_text K vs H Q E) : t_Ring_text K (E1 Q) (start ["self"] vs) H := by
  obtain ⟨a, l, rfl, h, k⟩ := h
  show t_Ring_text K (E1 Q) [some (.ref a)] H
  unfold t_Ring_text
  walk_at "go"
  exact k
theorem pure_Ring_len (h : sp_Ring_len K vs H Q E) : t_Ring_len K (E1 Q) (start ["self"] vs) H := by
  obtain ⟨a, l, rfl, h, hl, k⟩ := h
  show t_Ring_len K (E1 Q) [some (.ref a)] H
  unfold t_Ring_len
  walk_at "go"
  exact k
theorem pure_Ring_eq (h : sp_Ring_eq K vs H Q E) : t_Ring_eq K (E1 Q) (start ["self", "other"] vs) H := by
  obtain ⟨a, v, rfl, l, h1, h⟩ := h
  show t_Ring_eq K (E1 Q) [some (.ref a), some v] H
  unfold t_Ring_eq
  walk_at "go"
  rcases h with ⟨b, m, rfl, h2, k⟩ | ⟨n, hk, k⟩
  · walk_at "go"
    exact k
  · refine ⟨_, _, _, _, _, rfl, .own _, hk.1, F.no n hk.2, ?_⟩
    walk_at "go"
    exact k
theorem pure_Ring_init (h : sp_Ring_init K vs H Q E) : t_Ring_init K (E1 Q) (start ["self", "text"] vs) H := by
  obtain ⟨x, dx, l, rfl, hw, hx, k⟩ := h
  show t_Ring_init K (E1 Q) [some (.ref x), some (vS l)] H
  have hl := isWord_len hw
  unfold t_Ring_init
  walk_at "go"
  refine u_least_turning (fun e => by rw [e] at hl; simp at hl) (by omega) fun H2 e2 => ?_
  walk_at "go"
  refine u_setRing F (by walk_at "hp") fun H3 e3 h3 => ?_
  exact k _ (by walk_at "exs") h3
omit F in
theorem rep_len (k : Nat) (l : List Nat) : (rep k l).length = l.length * k := by simp [rep, Nat.mul_comm]
theorem pure_Ring_mul (h : sp_Ring_mul K vs H Q E) : t_Ring_mul K (E1 Q) (start ["self", "times"] vs) H := by
  obtain ⟨a, l, n, rfl, h, hw, h1, h2, k⟩ := h
  show t_Ring_mul K (E1 Q) [some (.ref a), some (.int n)] H
  have hl := isWord_len hw
  unfold t_Ring_mul
  have h3 : n ≤ (l.length : Int) * n := by
    have := Int.mul_le_mul_of_nonneg_right (show (1 : Int) ≤ (l.length : Int) by omega) (show 0 ≤ n by omega)
    omega
  have h4 : l.length * n.toNat ≤ 600 := by
    have : ((l.length * n.toNat : Nat) : Int) ≤ 600 := by
      rw [Int.natCast_mul, Int.toNat_of_nonneg (by omega)]
      exact h2
    omega
  have h5 : 1 ≤ l.length * n.toNat := Nat.mul_pos (by omega) (by omega)
  walk_at "go"
  refine s_mulS (by omega) (by omega) (by omega) ?_
  walk_at "go"
  refine u_makeRing (isWord_mk (by rw [rep_len]; exact h5) (by rw [rep_len]; exact h4) fun c hc => ?_) k
  obtain ⟨x, hx, hc⟩ := List.mem_flatten.mp hc
  rw [List.eq_of_mem_replicate hx] at hc
  exact isWord_in hw c hc
theorem pure_Ring_add (h : sp_Ring_add K vs H Q E) : t_Ring_add K (E1 Q) (start ["self", "other"] vs) H := by
  obtain ⟨a, b, l, m, rfl, h, h2, hw, hw2, hl, k⟩ := h
  show t_Ring_add K (E1 Q) [some (.ref a), some (.ref b)] H
  have hl1 := isWord_len hw
  have hl2 := isWord_len hw2
  unfold t_Ring_add
  walk_at "go"
  refine u_makeRing (isWord_mk (by rw [List.length_append]; omega) (by rw [List.length_append]; omega) fun c hc => ?_) k
  rcases List.mem_append.mp hc with hc | hc
  · exact isWord_in hw c hc
  · exact isWord_in hw2 c hc
end
end WB
namespace WB
theorem minL_spec : ∀ (xs : List (List Nat)) (x : List Nat), minL x xs ∈ x :: xs ∧ ∀ y ∈ x :: xs, minL x xs ≤ y
  | [], x => ⟨by simp [minL], fun y hy => by rw [List.mem_singleton.mp hy]; exact List.le_refl x⟩
  | z :: zs, x => by
    have e : minL x (z :: zs) = minL (if decide (z < x) = true then z else x) zs := rfl
    rw [e]
    by_cases h : z < x
    · rw [if_pos (decide_eq_true h)]
      obtain ⟨h1, h2⟩ := minL_spec zs z
      refine ⟨List.mem_cons_of_mem _ h1, fun y hy => ?_⟩
      rcases List.mem_cons.mp hy with rfl | hy
      · exact List.le_trans (h2 z List.mem_cons_self) (List.not_lt.mp fun h3 => List.lt_irrefl _ (List.lt_trans h h3))
      · exact h2 y hy
    · rw [if_neg (by simpa using h)]
      obtain ⟨h1, h2⟩ := minL_spec zs x
      refine ⟨?_, fun y hy => ?_⟩
      · rcases List.mem_cons.mp h1 with e | h1
        · rw [e]; exact List.mem_cons_self
        · exact List.mem_cons_of_mem _ (List.mem_cons_of_mem _ h1)
      · rcases List.mem_cons.mp hy with rfl | hy
        · exact h2 y List.mem_cons_self
        · rcases List.mem_cons.mp hy with rfl | hy
          · exact List.le_trans (h2 x List.mem_cons_self) (List.not_lt.mp h)
          · exact h2 y (List.mem_cons_of_mem _ hy)
theorem rot_len (l : List Nat) (i : Nat) : (rot l i).length = l.length := by
  unfold rot
  rw [List.length_append, List.length_drop, List.length_take]
  omega
theorem mem_rots {l y : List Nat} : y ∈ rots l ↔ ∃ i, i < l.length ∧ y = rot l i := by
  unfold rots
  rw [List.mem_map]
  constructor
  · rintro ⟨i, hi, rfl⟩; exact ⟨i, List.mem_range.mp hi, rfl⟩
  · rintro ⟨i, hi, rfl⟩; exact ⟨i, List.mem_range.mpr hi, rfl⟩
theorem rots_ne {l : List Nat} (h : l ≠ []) : rots l ≠ [] := by
  intro e
  have := congrArg List.length e
  unfold rots at this
  rw [List.length_map, List.length_range] at this
  exact h (List.length_eq_zero_iff.mp this)
theorem leastT_spec {l : List Nat} (h : l ≠ []) : leastT l ∈ rots l ∧ ∀ y ∈ rots l, leastT l ≤ y := by
  unfold leastT
  cases e : rots l with
  | nil => exact absurd e (rots_ne h)
  | cons x xs => exact minL_spec xs x
theorem leastT_rot {l : List Nat} (h : l ≠ []) : ∃ i, i < l.length ∧ leastT l = rot l i := mem_rots.mp (leastT_spec h).1
theorem leastT_len {l : List Nat} (h : l ≠ []) : (leastT l).length = l.length := by
  obtain ⟨i, _, e⟩ := leastT_rot h
  rw [e, rot_len]
theorem mem_rot {l : List Nat} {i c : Nat} : c ∈ rot l i ↔ c ∈ l := by
  unfold rot
  rw [List.mem_append, or_comm, ← List.mem_append, List.take_append_drop]
theorem leastT_mem {l : List Nat} (h : l ≠ []) {c : Nat} : c ∈ leastT l ↔ c ∈ l := by
  obtain ⟨i, _, e⟩ := leastT_rot h
  rw [e, mem_rot]
theorem rep_succ (k : Nat) (l : List Nat) : rep (k + 1) l = l ++ rep k l := by
  unfold rep
  rw [List.replicate_succ, List.flatten_cons]
theorem rep_length (k : Nat) (l : List Nat) : (rep k l).length = k * l.length := by simp [rep]
section
open PySem PySem.Spec PyProof.Rows L2
theorem Ex.drop {H H1 H2 : Hp} {p : Addr} (hp : H p = none) (a : Ex [] H H1) (b : Ex [p] H1 H2) : Ex [] H H2 := fun x o _ h => b x o (by simpa using ne_of_none h hp) (a x o (by simp) h)
end
theorem isWord_least {l : List Nat} (h : isWord l LET = true) : isWord (leastT l) LET = true := by
  have hl := isWord_len h
  have hn : l ≠ [] := fun e => by rw [e] at hl; simp at hl
  exact isWord_mk (by rw [leastT_len hn]; exact hl.1) (by rw [leastT_len hn]; exact hl.2) fun c hc => isWord_in h c ((leastT_mem hn).mp hc)
theorem isWord_rep {l : List Nat} {k : Nat} (h : isWord l LET = true) (h1 : 1 ≤ k) (h2 : k * l.length ≤ 600) : isWord (rep k l) LET = true := by
  have hl := isWord_len h
  refine isWord_mk (by rw [rep_length]; exact Nat.mul_pos h1 hl.1) (by rw [rep_length]; exact h2) fun c hc => ?_
  obtain ⟨x, hx, hc⟩ := List.mem_flatten.mp hc
  rw [List.eq_of_mem_replicate hx] at hc
  exact isWord_in h c hc
end WB
namespace WB
def readW (l : List Nat) (i : Int) (n : Nat) : List Nat := (List.range n).map fun k => l.getD (((i % l.length).toNat + k) % l.length) 0
theorem rep_get {l : List Nat} (h : 1 ≤ l.length) : ∀ (t j : Nat), j < t * l.length → (rep t l)[j]? = l[j % l.length]?
  | 0, j, hj => by omega
  | t + 1, j, hj => by
    rw [rep_succ]
    by_cases e : j < l.length
    · rw [List.getElem?_append_left e, Nat.mod_eq_of_lt e]
    · rw [List.getElem?_append_right (by omega), rep_get h t (j - l.length) (by rw [Nat.succ_mul] at hj; omega), ← Nat.mod_eq_sub_mod (by omega)]
theorem cut_both {l : List Nat} {b e : Int} (h0 : 0 ≤ b) (h1 : b ≤ e) (h2 : e ≤ l.length) : cut l (some b) (some e) = (l.drop b.toNat).take (e - b).toNat := by
  unfold cut
  have e1 : HT.sIx l.length 0 (some b) = min b.toNat l.length := by
    show (if b < 0 then (b + (l.length : Int)).toNat else min b.toNat l.length) = _
    rw [if_neg (by omega)]
  have e2 : HT.sIx l.length l.length (some e) = min e.toNat l.length := by
    show (if e < 0 then (e + (l.length : Int)).toNat else min e.toNat l.length) = _
    rw [if_neg (by omega)]
  rw [e1, e2, Nat.min_eq_left (by omega), Nat.min_eq_left (by omega)]
  congr 1
  omega
theorem stretch_eq {l : List Nat} {i n : Int} {t : Nat} (h : 1 ≤ l.length) (hn : 0 ≤ n) (ht : i % l.length + n ≤ (t * l.length : Nat)) : cut (rep t l) (some (i % l.length)) (some (i % l.length + n)) = readW l i n.toNat := by
  have b0 : 0 ≤ i % (l.length : Int) := Int.emod_nonneg _ (by omega)
  rw [cut_both b0 (by omega) (by rw [rep_length]; exact ht)]
  have e : (i % (l.length : Int) + n - i % (l.length : Int)).toNat = n.toNat := by omega
  rw [e]
  apply List.ext_getElem?
  intro k
  unfold readW
  rw [List.getElem?_take, List.getElem?_drop, List.getElem?_map]
  by_cases hk : k < n.toNat
  · rw [if_pos hk, List.getElem?_range hk, rep_get h _ _ (by omega)]
    have hm : ((i % (l.length : Int)).toNat + k) % l.length < l.length := Nat.mod_lt _ (by omega)
    rw [List.getElem?_eq_getElem hm]
    simp [List.getD_eq_getElem?_getD, List.getElem?_eq_getElem hm]
  · rw [if_neg hk]
    have : (List.range n.toNat)[k]? = none := List.getElem?_eq_none (by simp; omega)
    rw [this]
    rfl
open PySem PySem.Spec PyProof.Rows L2
def sp_is_within (K : PySem.W.Frag) : Sp := fun vs H Q _ => ∃ (v : V) (lo hi : Int), vs = [v, .int lo, .int hi] ∧ ((∃ i, v = .int i ∧ Q (.bl (decide (lo ≤ i ∧ i ≤ hi))) H) ∨ (∃ n, Kd K H v n ∧ n ≠ "int" ∧ Q (.bl false) H))
def sp_is_row (K : PySem.W.Frag) : Sp := fun vs H Q _ => ∃ (v : V) (m : Int), vs = [v, .int m] ∧ ((∃ a xs, v = .ref a ∧ SqT K H a xs ∧ Q (.bl (decide ((xs.length : Int) = m))) H) ∨ (∃ n, Kd K H v n ∧ n ≠ "tuple" ∧ Q (.bl false) H))
def sp_Ring_stretch (K : PySem.W.Frag) : Sp := fun vs H Q _ => ∃ (a : Addr) (i n : Int), vs = [.ref a, .int i, .int n] ∧ ∃ l, RingAt K H a l ∧ 1 ≤ l.length ∧ l.length ≤ 600 ∧ 0 ≤ n ∧ n ≤ 10000 ∧ Q (vS (readW l i n.toNat)) H
def sp_Ring_turned (K : PySem.W.Frag) : Sp := fun vs H Q _ => ∃ (a : Addr) (i : Int), vs = [.ref a, .int i] ∧ ∃ l, RingAt K H a l ∧ 1 ≤ l.length ∧ l.length ≤ 600 ∧ Q (vS (readW l i l.length)) H
def sp_Ring_getitem (K : PySem.W.Frag) : Sp := fun vs H Q _ => ∃ (a : Addr) (v : V), vs = [.ref a, v] ∧ ∃ l, RingAt K H a l ∧ 1 ≤ l.length ∧ l.length ≤ 600 ∧
  ((∃ i, v = .int i ∧ Q (vS (readW l i 1)) H) ∨ (∃ p i n, v = .ref p ∧ SqT K H p [.int i, .int n] ∧ 1 ≤ n ∧ n ≤ 600 ∧ Q (vS (readW l i n.toNat)) H))
def sp_law_long (K : PySem.W.Frag) : Sp := fun vs H Q _ => ∃ (a : Addr) (m : Int), vs = [.ref a, .int m] ∧ 0 < m ∧ m ≤ 100 ∧ PoolAt H a ∧ ∀ (l : List Nat) (H' : Hp), isWord l LET = true → Ex [a] H H' → PoolAt H' a → Q (vS l) H'
section
variable {K : PySem.W.Frag} {H : Hp} {Q : VK} {E : XK}
theorem u_within {i lo hi : Int} (k : Q (.bl (decide (lo ≤ i ∧ i ≤ hi))) H) : sp_is_within K ([.int i, .int lo, .int hi] ++ []) H Q E := ⟨_, _, _, rfl, .inl ⟨_, rfl, k⟩⟩
theorem u_row {a : Addr} {xs : List V} {m : Int} (h : SqT K H a xs) (k : Q (.bl (decide ((xs.length : Int) = m))) H) : sp_is_row K ([.ref a, .int m] ++ []) H Q E := ⟨_, _, rfl, .inl ⟨_, _, rfl, h, k⟩⟩
theorem u_methRing {a : Addr} {l : List Nat} {m : Str} {sp : Sp} {dvs : List V} {tr : TA} {σ : St} (h : RingAt K H a l) (hm : (m == ("least" : Str)) = false) (k : tr σ H fun vs H2 => sp (.ref a :: (vs ++ dvs)) H2 Q E) : MethG (He.ga K "Ring") m sp dvs E tr σ (.ref a) H Q := by
  obtain ⟨dx, h⟩ := h
  refine ⟨a, dx, _, rfl, h, ?_, k⟩
  simp only [List.lookup, hm]
theorem u_stretch {a : Addr} {l : List Nat} {i n : Int} (h : RingAt K H a l) (h1 : 1 ≤ l.length) (h2 : l.length ≤ 600) (h3 : 0 ≤ n) (h4 : n ≤ 10000) (k : Q (vS (readW l i n.toNat)) H) : sp_Ring_stretch K (.ref a :: ([.int i, .int n] ++ [])) H Q E := ⟨_, _, _, rfl, l, h, h1, h2, h3, h4, k⟩
theorem u_long {a : Addr} {m : Int} (h0 : 0 < m) (h1 : m ≤ 100) (hp : PoolAt H a) (k : ∀ (l : List Nat) (H' : Hp), isWord l LET = true → Ex [a] H H' → PoolAt H' a → Q (vS l) H') : sp_law_long K ([.ref a, .int m] ++ []) H Q E := ⟨_, _, rfl, h0, h1, hp, k⟩
theorem s_ifU {b : Bool} {ta tb : TE} {σ : St} (P : V → Hp → Prop) (k1 : b = true → ∀ Q' : VK, (∀ x H', P x H' → Q' x H') → ta σ H Q') (k2 : b = false → ∀ Q' : VK, (∀ x H', P x H' → Q' x H') → tb σ H Q') (hQ : ∀ x H', P x H' → Q x H') : if b = true then ta σ H Q else tb σ H Q := by
  cases b with
  | true => exact s_T rfl (k1 rfl Q hQ)
  | false => exact s_F rfl (k2 rfl Q hQ)
end
end WB
namespace WB
open PySem PySem.Spec PyProof.Rows L2
local macro_rules | `(tactic| walk_at "lit") => `(tactic| first | exact lit_abc | exact lit_empty)
local macro_rules | `(tactic| walk_at "nm") => `(tactic| focus first | exact List.not_mem_nil | (simp only [List.mem_singleton]; first | assumption | (exact Ne.symm (by assumption)) | (intro hz; subst hz; simp_all; done)))
local macro_rules | `(tactic| walk_at "hp") => `(tactic| first | assumption | (apply Ex.get0 (by assumption); walk_at "hp") | (apply Ex.get (by assumption); (walk_at "nm"); (walk_at "hp")))
local macro_rules | `(tactic| walk_at "sq") => `(tactic| first | assumption | (apply SqL.of; walk_at "hp") | (apply Ex.sqL (by assumption); (walk_at "nm"); (walk_at "sq")))
local macro_rules | `(tactic| walk_at "sqt") => `(tactic| first | assumption | (apply SqT.of; walk_at "hp") | (apply Ex.sqT (by assumption); (walk_at "nm"); (walk_at "sqt")))
local macro_rules | `(tactic| walk_at "sz") => `(tactic| focus ((with_reducible refine Nat.le_trans (m := 100000) ?_ (by decide)); first | omega | (simp; done) | (simp; omega)))
local macro_rules | `(tactic| walk_at "mul") => `(tactic| first | exact Or.inr ⟨by omega, by omega⟩ | exact Or.inl ⟨by omega, by omega⟩)
local macro_rules | `(tactic| walk_at "pool") => `(tactic| first | assumption | (apply PoolAt.ex (by assumption); (walk_at "nm"); (walk_at "pool")))
local macro_rules | `(tactic| walk_at "ring") => `(tactic| first | assumption | (apply RingAt.ex (by assumption); (walk_at "nm"); (walk_at "ring")))
local macro_rules | `(tactic| walk_at "st") => `(tactic| first
  | with_reducible refine s_seq ?_
  | with_reducible refine s_asg ?_
  | with_reducible refine s_gName ?_
  | with_reducible refine s_ret ?_
  | with_reducible refine s_ifS ?_
  | with_reducible refine s_next ?_
  | with_reducible refine s_op ?_
  | ((with_reducible apply s_var); exact rfl)
  | ((with_reducible apply s_cS); (walk_at "lit"))
  | with_reducible refine s_c ?_
  | with_reducible refine s_cb ?_
  | with_reducible refine s_cons ?_
  | with_reducible refine s_nil ?_
  | with_reducible refine s_un ?_
  | with_reducible refine s_call ?_
  | with_reducible refine s_test ?_
  | with_reducible refine s_tB ?_
  | with_reducible refine s_blQ ?_
  | with_reducible refine s_not ?_
  | with_reducible refine s_and ?_
  | with_reducible refine s_or ?_
  | with_reducible refine s_andV ?_
  | with_reducible refine s_orV ?_
  | with_reducible refine s_notV ?_
  | with_reducible refine s_ifE ?_
  | with_reducible refine s_chain ?_
  | ((with_reducible refine s_T ?_ ?_); (with_reducible exact rfl))
  | with_reducible refine s_nT ?_
  | with_reducible refine s_nF ?_
  | ((with_reducible refine s_F ?_ ?_); (with_reducible exact rfl))
  | ((with_reducible refine s_T ?_ ?_); assumption)
  | ((with_reducible refine s_F ?_ ?_); assumption)
  | ((with_reducible refine s_nB ?_ ?_); assumption)
  | ((with_reducible refine s_nA ?_ ?_); assumption)
  | ((with_reducible refine s_Td ?_ ?_); omega)
  | ((with_reducible refine s_Fd ?_ ?_); omega)
  | ((with_reducible refine s_nTd ?_ ?_); omega)
  | ((with_reducible refine s_nFd ?_ ?_); omega)
  | with_reducible refine s_sfld ?_
  | with_reducible refine s_addI ?_
  | with_reducible refine s_subI ?_
  | ((with_reducible refine s_mulI ?_ ?_); (walk_at "mul"))
  | ((with_reducible refine s_divI ?_ ?_); exact ⟨by omega, by omega⟩)
  | ((with_reducible refine s_modI ?_ ?_); omega)
  | ((with_reducible refine s_powI ?_ ?_); exact ⟨by decide, by decide, by decide⟩)
  | with_reducible refine s_ltI ?_
  | with_reducible refine s_leI ?_
  | with_reducible refine s_gtI ?_
  | with_reducible refine s_geI ?_
  | with_reducible refine s_negI ?_
  | with_reducible refine s_absI ?_
  | with_reducible refine s_intI ?_
  | with_reducible refine s_min2 ?_
  | with_reducible refine s_max2 ?_
  | with_reducible refine s_eqI ?_
  | with_reducible refine s_neI ?_
  | with_reducible refine s_eqS ?_
  | with_reducible refine s_neS ?_
  | with_reducible refine s_inSg ?_
  | with_reducible refine s_notInSg ?_
  | ((with_reducible refine s_addS ?_ ?_); (walk_at "sz"))
  | ((with_reducible refine s_lenS ?_ ?_); (walk_at "sz"))
  | ((with_reducible apply s_lenL); (walk_at "sq"))
  | ((with_reducible apply s_lenT); (walk_at "sqt"))
  | ((with_reducible apply s_ixL); (walk_at "sq"); exact rfl)
  | ((with_reducible apply s_ixT); (walk_at "sqt"); exact rfl)
  | with_reducible refine s_gSub ?_
  | ((with_reducible apply s_setL); (walk_at "hp"); (exact rfl); (intro _ _ _))
  | ((with_reducible refine s_alloc ?_ ?_); (walk_at "sz"); (intro _ _ _ _ _))
  | ((with_reducible refine s_divmod ?_ ?_); (exact ⟨by omega, PyProof.noPylong_small (by omega)⟩); (intro _ _ _ _ _))
  | ((with_reducible apply s_gTup); (walk_at "sqt"); (exact rfl))
  | ((with_reducible apply s_gLst); (walk_at "sq"); (exact rfl))
  | with_reducible refine s_gCons ?_
  | with_reducible refine s_gNil ?_
  | with_reducible refine s_lc ?_
  | ((with_reducible apply s_cat); (walk_at "hp"); (walk_at "hp"); (walk_at "sz"); (intro _ _ _ _ _))
  | ((with_reducible apply s_slL); (walk_at "sq"); (intro _ _ _ _ _))
  | with_reducible refine s_for ?_
  | with_reducible refine s_rng1 ?_
  | ((with_reducible refine s_rng1i ?_ ?_); (constructor <;> omega))
  | with_reducible refine s_rng2 ?_
  | ((with_reducible refine s_rng2i ?_ ?_); (refine ⟨?_, ?_, ?_, ?_⟩ <;> omega))
  | with_reducible refine s_iStr ?_
  | with_reducible refine s_iStrS ?_
  | with_reducible refine s_iList ?_
  | ((with_reducible apply s_iListA); (walk_at "sq"))
  | with_reducible refine s_iTup ?_
  | ((with_reducible apply s_iTupA); (walk_at "sqt"))
  | with_reducible refine s_sl ?_
  | with_reducible refine s_noPart ?_
  | with_reducible refine s_part ?_
  | with_reducible refine s_int1 ?_
  | ((with_reducible refine s_slS ?_ ?_); (walk_at "sz"))
  | with_reducible refine s_tup ?_
  | with_reducible refine s_lst ?_
  | with_reducible refine s_par ?_
  | with_reducible refine s_pair ?_
  | with_reducible refine s_M1 ?_
  | with_reducible refine s_isStr ?_
  | with_reducible refine s_revS ?_
  | ((with_reducible refine s_revS1 ?_ ?_); (walk_at "sz"))
  | with_reducible refine s_fldE ?_
  | with_reducible refine s_propE ?_
  | ((with_reducible refine u_draw ?_ ?_ ?_ ?_); omega; omega; (walk_at "pool"); (intro _ _ _ _ _ _))
  | ((with_reducible refine u_pool ?_); (intro _ _ _ _ _))
  | with_reducible refine u_is_integer ?_
  | with_reducible refine s_isiII ?_
  | with_reducible refine s_isiIB ?_
  | with_reducible refine s_isiSS ?_
  | ((with_reducible apply u_fldRing); assumption; (walk_at "ring"))
  | ((with_reducible apply u_textP); (walk_at "ring"))
  | ((with_reducible apply u_strRing); (walk_at "ring"))
  | ((with_reducible apply u_eqRing); (walk_at "ring"); (walk_at "ring"))
  | ((with_reducible apply u_isiRing); assumption; (walk_at "ring"))
  | ((with_reducible refine u_is_word ?_ ?_); omega; (intro _ _))
  | ((with_reducible refine u_turnings ?_ ?_); omega; (intro _ _ _ _ _))
  | with_reducible refine s_makeE ?_
  | with_reducible refine s_methE ?_)
local macro_rules | `(tactic| walk_at "go") => `(tactic| repeat (walk_at "st"))
local macro_rules | `(tactic| walk_at "exs") => `(tactic| first | exact Ex.rfl | assumption | (apply Ex.snoc (by assumption); walk_at "exs") | (apply Ex.snocW (by assumption); walk_at "exs"))
def t_is_within (K : PySem.W.Frag) : TS :=
  (tRet (tAndV (tCall (sp_is_integer K) [] E0 (tCons (tVar 0) tNil)) (tChain rLeI rLeI (tVar 1) (tVar 0) (tVar 2))))
def t_is_row (K : PySem.W.Frag) : TS :=
  (tRet (tAndV (tCB (rIsi K) (tCons (tVar 0) (tCons (tC (.ty "tuple")) tNil))) (tOp rEq (tCB (rLenV K) (tCons (tVar 0) tNil)) (tVar 1))))
def t_Ring_stretch (K : PySem.W.Frag) : TS :=
  (tSeq (tAsg (tOp rModI (tVar 1) (tCB (rLenV K) (tCons (tFld K (tVar 0) "least") tNil))) (gName 3))
  (tSeq (tAsg (tOp rAddI (tOp rDivI (tOp rAddI (tVar 3) (tVar 2)) (tCB (rLenV K) (tCons (tFld K (tVar 0) "least") tNil))) (tC (.int 1))) (gName 4))
  (tRet (tSl rSlS (tOp rMulS (tFld K (tVar 0) "least") (tVar 4)) (tPart (tVar 3)) (tPart (tOp rAddI (tVar 3) (tVar 2)))))))
def t_Ring_turned (K : PySem.W.Frag) : TS :=
  (tSeq (tIfS (tNot (tB (tCall (sp_is_integer K) [] E0 (tCons (tVar 1) tNil)))) tNever tNext)
  (tRet (tMeth (He.ga K "Ring") "stretch" (sp_Ring_stretch K) [] E0 (tVar 0) (tCons (tVar 1) (tCons (tCB (rLenV K) (tCons (tFld K (tVar 0) "least") tNil)) tNil)))))
def t_Ring_getitem (K : PySem.W.Frag) : TS :=
  (tSeq (tIfS (tB (tCall (sp_is_integer K) [] E0 (tCons (tVar 1) tNil))) (tRet (tMeth (He.ga K "Ring") "stretch" (sp_Ring_stretch K) [] E0 (tVar 0) (tCons (tVar 1) (tCons (tC (.int 1)) tNil)))) tNext)
  (tSeq (tIfS (tOr (tNot (tB (tCall (sp_is_row K) [] E0 (tCons (tVar 1) (tCons (tC (.int 2)) tNil))))) (tOr (tNot (tB (tCall (sp_is_integer K) [] E0 (tCons (tOp (rIxT K) (tVar 1) (tC (.int 0))) tNil)))) (tNot (tB (tCall (sp_is_within K) [] E0 (tCons (tOp (rIxT K) (tVar 1) (tC (.int 1))) (tCons (tC (.int 1)) (tCons (tC (.int 600)) tNil)))))))) tNever tNext)
  (tRet (tMeth (He.ga K "Ring") "stretch" (sp_Ring_stretch K) [] E0 (tVar 0) (tCons (tOp (rIxT K) (tVar 1) (tC (.int 0))) (tCons (tOp (rIxT K) (tVar 1) (tC (.int 1))) tNil))))))
def t_law_long (K : PySem.W.Frag) : TS :=
  (tSeq (tAsg (tIf (tTest (tOp rEq (tCall (sp_law_draw K) [] E0 (tCons (tVar 0) (tCons (tC (.int 4)) tNil))) (tC (.int 0)))) (tC (.str "abcdefghijklmnopqrstuvwxyz")) (tCall (sp_law_signs K) [] E0 (tCons (tVar 0) (tCons (tC (.int 4)) tNil)))) (gName 2))
  (tSeq (tAsg (tCall (sp_law_draw K) [] E0 (tCons (tVar 0) (tCons (tC (.int 8)) tNil))) (gName 3))
  (tSeq (tIfS (tTest (tOp rLtI (tVar 3) (tC (.int 4)))) (tRet (tCall (sp_law_word K) [] E0 (tCons (tVar 0) (tCons (tVar 2) (tCons (tC (.int 7)) tNil))))) tNext)
  (tSeq (tIfS (tTest (tOp rLtI (tVar 3) (tC (.int 6)))) (tRet (tCall (sp_law_word K) [] E0 (tCons (tVar 0) (tCons (tVar 2) (tCons (tVar 1) tNil))))) tNext)
  (tSeq (tAsg (tCall (sp_law_word K) [] E0 (tCons (tVar 0) (tCons (tVar 2) (tCons (tC (.int 5)) tNil)))) (gName 4))
  (tRet (tIf (tTest (tOp rEq (tVar 3) (tC (.int 6)))) (tOp rMulS (tVar 4) (tOp rAddI (tC (.int 1)) (tCall (sp_law_draw K) [] E0 (tCons (tVar 0) (tCons (tC (.int 6)) tNil))))) (tOp rMulS (tVar 4) (tOp rDivI (tC (.int 600)) (tCB (rLenV K) (tCons (tVar 4) tNil)))))))))))
section
variable {K : PySem.W.Frag} {vs : List V} {H : Hp} {Q : VK} {E : XK}
theorem pure_is_within (h : sp_is_within K vs H Q E) : t_is_within K (E1 Q) (start ["value", "least", "most"] vs) H := by
  obtain ⟨v, lo, hi, rfl, h⟩ := h
  show t_is_within K (E1 Q) [some v, some (.int lo), some (.int hi)] H
  unfold t_is_within
  walk_at "go"
  rcases h with ⟨i, rfl, k⟩ | ⟨n, hk, hn, k⟩
  · walk_at "go"
    refine s_2 (fun hb => ?_) (fun hb => ?_)
    · have hb := of_decide_eq_true hb
      walk_at "go"
      have e : decide (i ≤ hi) = decide (lo ≤ i ∧ i ≤ hi) := by simp [hb]
      rw [e]
      exact k
    · have hb := of_decide_eq_false hb
      have e : false = decide (lo ≤ i ∧ i ≤ hi) := by simp [hb]
      rw [e]
      exact k
  · refine u_not_integer hk hn ?_
    walk_at "go"
    exact k
theorem pure_is_row (h : sp_is_row K vs H Q E) : t_is_row K (E1 Q) (start ["value", "length"] vs) H := by
  obtain ⟨v, m, rfl, h⟩ := h
  show t_is_row K (E1 Q) [some v, some (.int m)] H
  unfold t_is_row
  walk_at "go"
  rcases h with ⟨a, xs, rfl, hs, k⟩ | ⟨n, hk, hn, k⟩
  · refine s_isiK (Kd.tup hs) (b := true) (by decide +kernel) ?_
    walk_at "go"
    exact k
  · have hm := hk.2
    simp only [KD, List.mem_cons, List.not_mem_nil, or_false] at hm
    rcases hm with rfl | rfl | rfl | rfl | rfl | rfl | rfl
    all_goals first
      | exact absurd rfl hn
      | (refine s_isiK hk (b := false) (by decide +kernel) ?_
         walk_at "go"
         exact k)
theorem pure_law_long (h : sp_law_long K vs H Q E) : t_law_long K (E1 Q) (start ["_law_pool_here", "_law_most", "_law_abc", "_law_way", "_law_piece"] vs) H := by
  obtain ⟨a, m, rfl, h0, h1, hp, k⟩ := h
  show t_law_long K (E1 Q) [some (.ref a), some (.int m), none, none, none] H
  unfold t_law_long
  walk_at "go"
  rename_i r H1 r0 r1 e1 p1
  refine s_ifU (fun x H2 => ∃ abc : List Nat, x = vS abc ∧ abc ≠ [] ∧ abc.length ≤ 100 ∧ (∀ c ∈ abc, c ∈ LET) ∧ Ex [a] H H2 ∧ PoolAt H2 a) (fun _ Q' kk => ?_) (fun _ Q' kk => ?_) ?_
  · walk_at "go"
    exact kk _ _ ⟨LET, rfl, by simp, by decide, fun _ h => h, e1, p1⟩
  · walk_at "go"
    refine u_signs (by omega) (by omega) p1 fun abc H2 ha1 ha2 ha3 _ e2 p2 => ?_
    exact kk _ _ ⟨abc, rfl, ha1, by omega, ha3, e1.trans e2, p2⟩
  rintro _ H2 ⟨abc, rfl, ha1, ha2, ha3, e2, p2⟩
  walk_at "go"
  rename_i w H3 w0 w1 e3 p3
  refine s_2 (fun hb => ?_) (fun hb => ?_)
  · walk_at "go"
    refine u_word ha1 (by omega) (by omega) (by omega) p3 fun l H4 l1 l2 l3 e4 p4 => ?_
    exact k _ _ (isWord_mk (List.length_pos_iff.mpr l1) (by omega) fun c hc => ha3 c (l3 c hc)) ((e2.trans e3).trans e4) p4
  walk_at "go"
  refine s_2 (fun hb => ?_) (fun hb => ?_)
  · walk_at "go"
    refine u_word ha1 (by omega) (by omega) (by omega) p3 fun l H4 l1 l2 l3 e4 p4 => ?_
    exact k _ _ (isWord_mk (List.length_pos_iff.mpr l1) (by omega) fun c hc => ha3 c (l3 c hc)) ((e2.trans e3).trans e4) p4
  walk_at "go"
  refine u_word ha1 (by omega) (by omega) (by omega) p3 fun l H4 l1 l2 l3 e4 p4 => ?_
  have hll : 1 ≤ l.length := List.length_pos_iff.mpr l1
  have hw : isWord l LET = true := isWord_mk hll (by omega) fun c hc => ha3 c (l3 c hc)
  walk_at "go"
  refine s_ifU (fun x H5 => ∃ w : List Nat, x = vS w ∧ isWord w LET = true ∧ Ex [a] H H5 ∧ PoolAt H5 a) (fun _ Q' kk => ?_) (fun _ Q' kk => ?_) ?_
  · walk_at "go"
    rename_i r5 H5 r50 r51 e5 p5
    have hb : l.length * (1 + r5).toNat ≤ 30 := by
      have : (1 + r5).toNat ≤ 6 := by omega
      have h2 : l.length ≤ 5 := by omega
      exact Nat.mul_le_mul h2 this
    refine s_mulS (by omega) (by omega) (by omega) ?_
    exact kk _ _ ⟨_, rfl, isWord_rep hw (by omega) (by rw [Nat.mul_comm]; omega), ((e2.trans e3).trans e4).trans e5, p5⟩
  · walk_at "go"
    have q0 : (1 : Int) ≤ 600 / (l.length : Int) := by
      refine (Int.le_ediv_iff_mul_le (by omega)).mpr ?_
      omega
    have q1 : (600 / (l.length : Int)) * (l.length : Int) ≤ 600 := Int.ediv_mul_le _ (by omega)
    have q2 : (600 / (l.length : Int)) ≤ 600 := Int.ediv_le_self _ (by omega)
    obtain ⟨q, hq⟩ := Int.eq_ofNat_of_zero_le (show (0 : Int) ≤ 600 / (l.length : Int) by omega)
    rw [hq] at q0 q1 q2 ⊢
    have q3 : q * l.length ≤ 600 := by exact_mod_cast q1
    refine s_mulS (by omega) (by omega) (by rw [Nat.mul_comm]; simpa using Nat.le_trans q3 (by omega)) ?_
    exact kk _ _ ⟨_, rfl, isWord_rep hw (by simp; omega) (by simpa using q3), (e2.trans e3).trans e4, p4⟩
  · rintro _ H5 ⟨w, rfl, hw, e5, p5⟩
    exact k _ _ hw e5 p5
variable (F : RingK K)
include F
theorem pure_Ring_stretch (h : sp_Ring_stretch K vs H Q E) : t_Ring_stretch K (E1 Q) (start ["self", "place", "number", "begin", "times"] vs) H := by
  obtain ⟨a, i, n, rfl, l, hr, l1, l2, n0, n1, k⟩ := h
  show t_Ring_stretch K (E1 Q) [some (.ref a), some (.int i), some (.int n), none, none] H
  have b0 : 0 ≤ i % (l.length : Int) := Int.emod_nonneg _ (by omega)
  have b1 : i % (l.length : Int) < l.length := Int.emod_lt_of_pos _ (by omega)
  unfold t_Ring_stretch
  walk_at "go"
  have q0 : 0 ≤ (i % (l.length : Int) + n) / (l.length : Int) := Int.ediv_nonneg (by omega) (by omega)
  have q1 : (i % (l.length : Int) + n) / (l.length : Int) * (l.length : Int) ≤ i % (l.length : Int) + n := Int.ediv_mul_le _ (by omega)
  have q2 : i % (l.length : Int) + n < ((i % (l.length : Int) + n) / (l.length : Int) + 1) * (l.length : Int) := Int.lt_ediv_add_one_mul_self _ (by omega)
  obtain ⟨q, hq⟩ := Int.eq_ofNat_of_zero_le q0
  rw [hq] at q1 q2 ⊢
  have q3 : q * l.length ≤ 11000 := by
    have : ((q * l.length : Nat) : Int) ≤ 11000 := by push_cast; omega
    exact_mod_cast this
  have q4 : q ≤ q * l.length := Nat.le_mul_of_pos_right _ (by omega)
  have e1 : ((q : Int) + 1).toNat = q + 1 := by omega
  have q5 : l.length * (q + 1) ≤ 12000 := by rw [Nat.mul_comm, Nat.succ_mul]; omega
  refine s_mulS (by omega) (by omega) (by rw [e1]; omega) ?_
  rw [e1]
  walk_at "go"
  refine s_slS (by rw [rep_length, Nat.mul_comm]; exact Nat.le_trans q5 (by decide)) ?_
  rw [stretch_eq l1 n0 (by push_cast; push_cast at q2; omega)]
  exact k
theorem pure_Ring_turned (h : sp_Ring_turned K vs H Q E) : t_Ring_turned K (E1 Q) (start ["self", "i"] vs) H := by
  obtain ⟨a, i, rfl, l, hr, l1, l2, k⟩ := h
  show t_Ring_turned K (E1 Q) [some (.ref a), some (.int i)] H
  unfold t_Ring_turned
  walk_at "go"
  refine u_methRing hr (by decide +kernel) ?_
  walk_at "go"
  refine u_stretch hr l1 l2 (by omega) (by omega) ?_
  exact k
theorem pure_Ring_getitem (h : sp_Ring_getitem K vs H Q E) : t_Ring_getitem K (E1 Q) (start ["self", "at"] vs) H := by
  obtain ⟨a, v, rfl, l, hr, l1, l2, h⟩ := h
  show t_Ring_getitem K (E1 Q) [some (.ref a), some v] H
  unfold t_Ring_getitem
  walk_at "go"
  rcases h with ⟨i, rfl, k⟩ | ⟨p, i, n, rfl, hp, n1, n2, k⟩
  · walk_at "go"
    refine u_methRing hr (by decide +kernel) ?_
    walk_at "go"
    exact u_stretch hr l1 l2 (by omega) (by omega) k
  · refine u_not_integer (Kd.tup hp) (by decide) ?_
    walk_at "go"
    refine u_row hp ?_
    walk_at "go"
    refine s_nFd rfl ?_
    walk_at "go"
    refine u_within ?_
    rw [decide_eq_true (show (1 : Int) ≤ n ∧ n ≤ 600 from ⟨n1, n2⟩)]
    walk_at "go"
    refine u_methRing hr (by decide +kernel) ?_
    walk_at "go"
    exact u_stretch hr l1 l2 (by omega) (by omega) k
end
end WB
namespace WB
open PySem PySem.Spec PyProof.Rows L2
theorem mem_cut {l : List Nat} {lo hi : Option Int} {c : Nat} (h : c ∈ cut l lo hi) : c ∈ l := List.mem_of_mem_drop (List.mem_of_mem_take h)
theorem cut_le {l : List Nat} {lo hi : Option Int} : (cut l lo hi).length ≤ l.length := by
  unfold cut
  rw [List.length_take, List.length_drop]
  omega
theorem plain_app {l m : List Nat} (h : plain l) (h2 : plain m) : plain (l ++ m) := fun c hc => by
  rcases List.mem_append.mp hc with z | z
  · exact h c z
  · exact h2 c z
theorem plain_cut {l : List Nat} {lo hi : Option Int} (h : plain l) : plain (cut l lo hi) := fun c hc => h c (mem_cut hc)
end WB
namespace WB
open PySem PySem.Spec PyProof.Rows L2
def oddS : List (List Nat) := [[], [97], [97, 98], [65], [97, 32, 98], [97, 97], [97, 10], [97, 98, 99, 100, 101]]
def kA : Key := .inr "a"
inductive OddAt (m : List Addr) (H : Hp) : V → Prop
  | non : OddAt m H .non
  | bl (b : Bool) : OddAt m H (.bl b)
  | int (i : Int) (h : i.natAbs ≤ 10 ^ 38) : OddAt m H (.int i)
  | str (l : List Nat) (h : l ∈ oddS) : OddAt m H (vS l)
  | l0 {a : Addr} (n : a ∉ m) (h : H a = some (.lst [])) : OddAt m H (.ref a)
  | l1 {a : Addr} (n : a ∉ m) (h : H a = some (.lst [vS [97]])) : OddAt m H (.ref a)
  | d0 {a : Addr} (n : a ∉ m) (h : H a = some (.dK [])) : OddAt m H (.ref a)
  | d1 {a : Addr} (n : a ∉ m) (h : H a = some (.dK [(kA, .int 1)])) : OddAt m H (.ref a)
  | t0 {a : Addr} (n : a ∉ m) (h : H a = some (.tup [])) : OddAt m H (.ref a)
  | t1 {a : Addr} (n : a ∉ m) (h : H a = some (.tup [vS [97]])) : OddAt m H (.ref a)
  | t2 {a : Addr} (n : a ∉ m) (h : H a = some (.tup [.int 0, .int 1])) : OddAt m H (.ref a)
  | t3 {a b c d e : Addr} (n : a ∉ m) (nb : b ∉ m) (nc : c ∉ m) (nd : d ∉ m) (ne : e ∉ m) (h : H a = some (.tup [.ref b, .ref c])) (hb : H b = some (.lst [])) (hc : H c = some (.dK [(kA, .ref d)])) (hd : H d = some (.tup [.int 1, .ref e])) (he : H e = some (.lst [])) : OddAt m H (.ref a)
theorem OddAt.ex {m : List Addr} {H H' : Hp} {v : V} (e : Ex m H H') (h : OddAt m H v) : OddAt m H' v := by
  cases h with
  | non => exact .non
  | bl b => exact .bl b
  | int i h => exact .int i h
  | str l h => exact .str l h
  | l0 n h => exact .l0 n (e _ _ n h)
  | l1 n h => exact .l1 n (e _ _ n h)
  | d0 n h => exact .d0 n (e _ _ n h)
  | d1 n h => exact .d1 n (e _ _ n h)
  | t0 n h => exact .t0 n (e _ _ n h)
  | t1 n h => exact .t1 n (e _ _ n h)
  | t2 n h => exact .t2 n (e _ _ n h)
  | t3 n nb nc nd ne h hb hc hd he => exact .t3 n nb nc nd ne (e _ _ n h) (e _ _ nb hb) (e _ _ nc hc) (e _ _ nd hd) (e _ _ ne he)
theorem oddS_len {l : List Nat} (h : l ∈ oddS) : l.length ≤ 5 := by
  simp only [oddS, List.mem_cons, List.not_mem_nil, or_false] at h
  rcases h with rfl | rfl | rfl | rfl | rfl | rfl | rfl | rfl <;> decide
theorem oddS_plain {l : List Nat} (h : l ∈ oddS) : plain l := by
  simp only [oddS, List.mem_cons, List.not_mem_nil, or_false] at h
  rcases h with rfl | rfl | rfl | rfl | rfl | rfl | rfl | rfl <;> (unfold plain; decide)
theorem Kd.dict {K : PySem.W.Frag} {H : Hp} {a : Addr} {kvs : List (Key × V)} (h : H a = some (.dK kvs)) : Kd K H (.ref a) "dict" := ⟨.base (.dK h), by decide +kernel⟩
theorem OddAt.kd {K : PySem.W.Frag} {m : List Addr} {H : Hp} {v : V} (h : OddAt m H v) : (∃ l ∈ oddS, v = vS l) ∨ ∃ n, Kd K H v n ∧ n ≠ "str" := by
  cases h with
  | non => exact .inr ⟨_, .non, by decide⟩
  | bl b => exact .inr ⟨_, .bl, by decide⟩
  | int i h => exact .inr ⟨_, .int, by decide⟩
  | str l h => exact .inl ⟨l, h, rfl⟩
  | l0 n h => exact .inr ⟨_, .lst h, by decide⟩
  | l1 n h => exact .inr ⟨_, .lst h, by decide⟩
  | d0 n h => exact .inr ⟨_, .dict h, by decide⟩
  | d1 n h => exact .inr ⟨_, .dict h, by decide⟩
  | t0 n h => exact .inr ⟨_, .tup (SqT.of h), by decide⟩
  | t1 n h => exact .inr ⟨_, .tup (SqT.of h), by decide⟩
  | t2 n h => exact .inr ⟨_, .tup (SqT.of h), by decide⟩
  | t3 n nb nc nd ne h hb hc hd he => exact .inr ⟨_, .tup (SqT.of h), by decide⟩
def sp_law_odd (K : PySem.W.Frag) : Sp := fun vs H Q _ => ∃ a : Addr, vs = [.ref a] ∧ PoolAt H a ∧ ∀ (v : V) (H' : Hp), Ex [a] H H' → PoolAt H' a → OddAt [a] H' v → Q v H'
def sp_law_is_word (K : PySem.W.Frag) : Sp := fun vs H Q _ => ∃ (v : V) (s : List Nat), vs = [v, vS s] ∧ ((∃ l : List Nat, v = vS l ∧ l.length ≤ 10000 ∧ plain l ∧ ∀ H', Ex [] H H' → Q (.bl (isWord l s)) H') ∨ (∃ n, Kd K H v n ∧ n ≠ "str" ∧ Q (.bl false) H))
section
variable {K : PySem.W.Frag} {H : Hp} {Q : VK} {E : XK}
theorem u_odd {a : Addr} (hp : PoolAt H a) (k : ∀ (v : V) (H' : Hp), Ex [a] H H' → PoolAt H' a → OddAt [a] H' v → Q v H') : sp_law_odd K ([.ref a] ++ []) H Q E := ⟨_, rfl, hp, k⟩
theorem u_lwordS {l s : List Nat} (hl : l.length ≤ 10000) (hp : plain l) (k : ∀ H', Ex [] H H' → Q (.bl (isWord l s)) H') : sp_law_is_word K ([vS l, vS s] ++ []) H Q E := ⟨_, _, rfl, .inl ⟨l, rfl, hl, hp, k⟩⟩
theorem u_lwordN {v : V} {s : List Nat} {n : String} (h : Kd K H v n) (hn : n ≠ "str") (k : Q (.bl false) H) : sp_law_is_word K ([v, vS s] ++ []) H Q E := ⟨_, _, rfl, .inr ⟨n, h, hn, k⟩⟩
theorem s_dnew (k : ∀ p H2, H p = none → Ex [] H H2 → H2 p = some (.dK []) → Q (.ref p) H2) {σ : St} : tDNewK σ H Q := fun p hp => k p _ hp (Ex.new hp) upd_same
theorem s_disp1 {σ : St} {ta tb : TE} {z : Key} {v : V} (h : ∀ p H1, H p = none → Ex [] H H1 → H1 p = some (.dK []) → ∀ R : List (V × V) → Hp → Prop, (∀ H2, Ex [] H1 H2 → R [(kV z, v)] H2) → tPairs [(ta, tb)] σ H1 R) (k : ∀ p H2, H p = none → Ex [] H H2 → H2 p = some (.dK [(z, v)]) → Q (.ref p) H2) : tDisp [(ta, tb)] σ H Q := by
  intro p hp
  refine h p _ hp (Ex.new hp) upd_same _ fun H2 e => ⟨e p _ (by simp) upd_same, [(z, v)], rfl, by simp, k p _ hp ?_ ?_⟩
  · intro b o _ hb
    rw [upd_ne (ne_of_none hb hp)]
    exact e b o (by simp) (by rw [upd_ne (ne_of_none hb hp)]; exact hb)
  · exact upd_same
theorem s_pairs1 {σ : St} {ta tb : TE} {R : List (V × V) → Hp → Prop} (k : ta σ H fun x H1 => tb σ H1 fun y H2 => R [(x, y)] H2) : tPairs [(ta, tb)] σ H R := k
theorem eqv_nil {ds : List PyData} : PyData.eqv (.list ds) (.list []) = ds.isEmpty := by
  cases ds with
  | nil => simp [PyData.eqv, PyData.eqvAll]
  | cons d ds => simp [PyData.eqv, PyData.eqvAll]
theorem s_eqLSnil {a b : Addr} {ls : List (List Nat)} (h1 : SqL K H a (ls.map vS)) (h2 : SqL K H b []) (p1 : ∀ l ∈ ls, plain l) (k : Q (.bl ls.isEmpty) H) : rEqD K (.ref a) (.ref b) H Q := by
  refine ⟨_, _, .lst h1 (dp_strs ls), .lst h2 .nil, shaped_strs p1, by decide +kernel, ?_⟩
  rw [eqv_nil]
  cases ls <;> exact k
end
end WB
namespace WB
open PySem PySem.Spec PyProof.Rows L2
def ndc {α : Type} [DecidableEq α] : List α → Nat
  | [] => 0
  | x :: r => if x ∈ r then ndc r else ndc r + 1
def rSetN (K : PySem.W.Frag) (x : V) (H : Hp) (Q : VK) : Prop := (∃ l : List Nat, x = vS l ∧ l.length < 4000 ∧ Q (.int (ndc l.reverse : Nat)) H) ∨ (∃ (a : Addr) (ls : List (List Nat)), x = .ref a ∧ SqL K H a (ls.map vS) ∧ ls.length < 4000 ∧ Q (.int (ndc ls.reverse : Nat)) H)
def tLenSetS (K : PySem.W.Frag) (ta : TE) : TE := fun σ H Q => ta σ H fun x H1 => rSetN K x H1 Q
end WB
namespace WB
open PySem PySem.Spec PyProof.Rows L2
theorem eqV_S {a b : List Nat} : eqV (vS a) (vS b) = decide (a = b) := by
  show (S a == S b) = decide (a = b)
  rw [Bool.eq_iff_iff, beq_iff_eq, decide_eq_true_iff]
  exact ⟨S_inj, fun e => by rw [e]⟩
section
variable {K : PySem.W.Frag} {H : Hp} {Q : VK} {E : XK}
theorem s_lenSet {ta : TE} {σ : St} (k : ta σ H fun x H1 => rSetN K x H1 Q) : tLenSetS K ta σ H Q := k
end
end WB
namespace WB
open PySem PySem.Spec PyProof.Rows L2
def IteT (K : PySem.W.Frag) (a : Addr) : It :=
  ⟨fun i H => ∃ (xs : List V) (x : V), SqT K H a xs ∧ xs[i]? = some x, fun i H v H' => ∃ T x, v = .ref T ∧ H T = none ∧ H' = upd H T (.tup [.int (i : Nat), x]) ∧ ∀ xs, SqT K H a xs → xs[i]? = some x, fun i H => ∃ xs : List V, SqT K H a xs ∧ xs.length ≤ i⟩
def iEnumT (K : PySem.W.Frag) (ta : TA) : TI := fun σ H R => ta σ H fun vs H1 => ∃ a xs, vs = [.ref a] ∧ SqT K H1 a xs ∧ R (IteT K a) H1
theorem s_enumT {K : PySem.W.Frag} {ta : TA} {σ : L2.St} {H : Hp} {R : It → Hp → Prop} (k : ta σ H fun vs H1 => ∃ a xs, vs = [.ref a] ∧ SqT K H1 a xs ∧ R (IteT K a) H1) : iEnumT K ta σ H R := k
theorem s_enumTA {K : PySem.W.Frag} {a : Addr} {xs : List V} {H : Hp} {C : Addr → Prop} (h : SqT K H a xs) (k : C a) : ∃ b ys, [V.ref a] = [V.ref b] ∧ SqT K H b ys ∧ C b := ⟨a, xs, rfl, h, k⟩
end WB
namespace WB
open PySem PySem.Spec PyProof.Rows L2
def KindAt (K : PySem.W.Frag) (H : Hp) (a : Addr) (l : List Nat) (ps : List (List Nat)) : Prop := ∃ dx t, H a = some (.ins (He.ga K "Kind") dx [("letters", vS l), ("allowed", .ref t)]) ∧ SqT K H t (ps.map vS)
section
variable {K : PySem.W.Frag} {H H' : Hp} {a p : Addr} {l : List Nat} {ps : List (List Nat)} {Q : VK} {E : XK}
theorem KindAt.ex0 (e : Ex [] H H') (h : KindAt K H a l ps) : KindAt K H' a l ps := by
  obtain ⟨dx, t, h1, h2⟩ := h
  exact ⟨dx, t, e a _ (by simp) h1, e.sqT (by simp) h2⟩
theorem sqT_pool {t : Addr} {xs : List V} (hp : PoolAt H p) (e : Ex [p] H H') (h : SqT K H t xs) : SqT K H' t xs := by
  obtain ⟨x, y, z, hp⟩ := hp
  rcases h with (h | ⟨o, h⟩) | h
  · exact e.sqT (by simp only [List.mem_singleton]; intro w; rw [w, hp] at h; cases h) (.inl (.inl h))
  · exact e.sqT (by simp only [List.mem_singleton]; intro w; rw [w, hp] at h; cases h) (.inl (.inr ⟨o, h⟩))
  · exact .inr h
theorem KindAt.exP (hp : PoolAt H p) (e : Ex [p] H H') (h : KindAt K H a l ps) : KindAt K H' a l ps := by
  obtain ⟨dx, t, h1, h2⟩ := h
  refine ⟨dx, t, e a _ ?_ h1, sqT_pool hp e h2⟩
  obtain ⟨x, y, z, hp⟩ := hp
  simp only [List.mem_singleton]
  intro w
  rw [w, hp] at h1
  cases h1
theorem s_notN {v : V} (k : Q (.bl (!decide (v = .non))) H) : rNotN1 v .non H Q := ⟨rfl, k⟩
theorem s_isN {v : V} (k : Q (.bl (decide (v = .non))) H) : rIsN1 v .non H Q := ⟨rfl, k⟩
end
end WB
namespace WB
open PySem PySem.Spec PyProof.Rows L2
def Lc2W (J : It) (g : TG) (tt : TT) (wi1 : TI) (g1 : TG) (tt1 : TT) (te : TE) (vs vs1 : List Nat) (σ : St) (H1 : Hp) (Q : VK) : Prop := ∀ D, H1 D = none → ∃ W : Nat → Nat → Hp → Prop, (∃ m, W 0 m (upd H1 D (.lst []))) ∧ ∀ i m H, W i m H →
  (J.stop i H ∧ Q (.ref D) H) ∨ (J.go i H ∧ ∃ Nx : Hp → Prop, (∀ H', Nx H' → ∃ m', m' < m ∧ W (i + 1) m' H') ∧ ∀ x H', J.yld i H x H' → g x (wipe σ vs) H' fun σ2 H2 => wipe σ2 vs = wipe σ vs ∧ tt σ2 H2 fun b H3 =>
    if b = true then wi1 σ2 H3 fun J1 H4 => ∃ W1 : Nat → Nat → Hp → Prop, (∃ m, W1 0 m H4) ∧ ∀ j k H, W1 j k H →
      (J1.stop j H ∧ Nx H) ∨ (J1.go j H ∧ ∃ Nx1 : Hp → Prop, (∀ H', Nx1 H' → ∃ k', k' < k ∧ W1 (j + 1) k' H') ∧ ∀ x H', J1.yld j H x H' → g1 x (wipe σ2 vs1) H' fun σ3 H5 => wipe σ3 vs1 = wipe σ2 vs1 ∧ tt1 σ3 H5 fun b H6 =>
        if b = true then te σ3 H6 fun y H7 => ∃ acc, H7 D = some (.lst acc) ∧ acc.length < sizeLine ∧ Nx1 (upd H7 D (.lst (acc ++ [y]))) else Nx1 H6)
    else Nx H3)
theorem s_lc2 {wi wi1 : TI} {g g1 : TG} {tt tt1 : TT} {te : TE} {vs vs1 : List Nat} {σ : St} {H : Hp} {Q : VK} (k : wi σ H fun J H1 => Lc2W J g tt wi1 g1 tt1 te vs vs1 σ H1 Q) : tLc2 wi g tt wi1 g1 tt1 te vs vs1 σ H Q := k
end WB
namespace WB
open PySem PySem.Spec PyProof.Rows L2
def sTuple : List Nat := [116, 117, 112, 108, 101]
def sList : List Nat := [108, 105, 115, 116]
def sTruth : List Nat := [116, 114, 117, 116, 104]
def sPlain : List Nat := [112, 108, 97, 105, 110]
def Scal (v : V) (d : PyData) : Prop := (v = .non ∧ d = .none) ∨ (∃ b, v = .bl b ∧ d = .bool b) ∨ (∃ i, v = .int i ∧ d = .int i) ∨ (∃ l, plain l ∧ v = vS l ∧ d = dS l)
def Dd (K : PySem.W.Frag) (H : Hp) : Nat → V → PyData → Prop
  | 0, v, d => Scal v d
  | n + 1, v, d => Scal v d ∨ (∃ a xs ds, v = .ref a ∧ d = .tuple ds ∧ SqT K H a xs ∧ xs.length ≤ 1000 ∧ ds.length = xs.length ∧ ∀ (i : Nat) x e, xs[i]? = some x → ds[i]? = some e → Dd K H n x e) ∨
    (∃ a xs ds, v = .ref a ∧ d = .list ds ∧ H a = some (.lst xs) ∧ xs.length ≤ 1000 ∧ ds.length = xs.length ∧ ∀ (i : Nat) x e, xs[i]? = some x → ds[i]? = some e → Dd K H n x e)
def Fr (F : Addr → Prop) (H : Hp) : Nat → V → PyData → Prop
  | 0, v, d => Scal v d
  | n + 1, v, d => Scal v d ∨ (∃ a xs ds, v = .ref a ∧ d = .list ds ∧ F a ∧ H a = some (.lst xs) ∧ ds.length = xs.length ∧ ∀ (i : Nat) x e, xs[i]? = some x → ds[i]? = some e → Fr F H n x e)
theorem Scal.dp {K : PySem.W.Frag} {H : Hp} {v : V} {d : PyData} (h : Scal v d) : Dp K H v d := by
  rcases h with ⟨rfl, rfl⟩ | ⟨b, rfl, rfl⟩ | ⟨i, rfl, rfl⟩ | ⟨l, _, rfl, rfl⟩
  · exact .non
  · exact .bl b
  · exact .int i
  · exact .str _
theorem dpAll_of {K : PySem.W.Frag} {H : Hp} : ∀ (xs : List V) (ds : List PyData), ds.length = xs.length → (∀ (i : Nat) x e, xs[i]? = some x → ds[i]? = some e → Dp K H x e) → DpAll K H xs ds
  | [], [], _, _ => .nil
  | x :: xs, d :: ds, hl, h => .cons (h 0 x d rfl rfl) (dpAll_of xs ds (by simpa using hl) fun i y e h1 h2 => h (i + 1) y e h1 h2)
theorem Fr.dp {K : PySem.W.Frag} {F : Addr → Prop} {H : Hp} : ∀ (n : Nat) (v : V) (d : PyData), Fr F H n v d → Dp K H v d
  | 0, _, _, h => Scal.dp h
  | n + 1, v, d, h => by
    rcases h with h | ⟨a, xs, ds, rfl, rfl, _, h1, hl, h2⟩
    · exact Scal.dp h
    · exact .lst (SqL.of h1) (dpAll_of xs ds hl fun i x e hx he => Fr.dp n x e (h2 i x e hx he))
theorem Fr.mono {F F' : Addr → Prop} {H H' : Hp} (hF : ∀ a, F a → F' a) (hh : ∀ a xs, F a → H a = some (.lst xs) → H' a = some (.lst xs)) : ∀ (n : Nat) (v : V) (d : PyData), Fr F H n v d → Fr F' H' n v d
  | 0, _, _, h => h
  | n + 1, v, d, h => by
    rcases h with h | ⟨a, xs, ds, rfl, rfl, f, h1, hl, h2⟩
    · exact .inl h
    · exact .inr ⟨a, xs, ds, rfl, rfl, hF a f, hh a xs f h1, hl, fun i x e hx he => Fr.mono hF hh n x e (h2 i x e hx he)⟩
theorem Dd.ex {K : PySem.W.Frag} {H H' : Hp} (e : Ex [] H H') : ∀ (n : Nat) (v : V) (d : PyData), Dd K H n v d → Dd K H' n v d
  | 0, _, _, h => h
  | n + 1, v, d, h => by
    rcases h with h | ⟨a, xs, ds, rfl, rfl, h1, hn, hl, h2⟩ | ⟨a, xs, ds, rfl, rfl, h1, hn, hl, h2⟩
    · exact .inl h
    · exact .inr (.inl ⟨a, xs, ds, rfl, rfl, e.sqT (by simp) h1, hn, hl, fun i x y hx hy => Dd.ex e n x y (h2 i x y hx hy)⟩)
    · exact .inr (.inr ⟨a, xs, ds, rfl, rfl, e.get0 h1, hn, hl, fun i x y hx hy => Dd.ex e n x y (h2 i x y hx hy)⟩)
theorem lay_all : ∀ {ds : List PyData}, (∀ e ∈ ds, PyData.canLay0 e = true) → PyData.canLayAll0 ds = true
  | [], _ => by simp [PyData.canLayAll0]
  | d :: ds, h => by
    rw [PyData.canLayAll0]
    exact Bool.and_eq_true_iff.mpr ⟨h d List.mem_cons_self, lay_all fun e he => h e (List.mem_cons_of_mem _ he)⟩
theorem dep_all {m : Nat} : ∀ {ds : List PyData}, (∀ e ∈ ds, PyData.depth e ≤ m) → PyData.depthAll ds ≤ m
  | [], _ => by simp [PyData.depthAll]
  | d :: ds, h => by
    rw [PyData.depthAll]
    exact Nat.max_le.mpr ⟨h d List.mem_cons_self, dep_all fun e he => h e (List.mem_cons_of_mem _ he)⟩
theorem lay_dS {l : List Nat} (h : plain l) : PyData.canLay0 (dS l) = true := by
  unfold dS
  rw [PyData.canLay0]
  exact strOk_S h
theorem dep_dS {l : List Nat} : PyData.depth (dS l) = 0 := by simp [dS, PyData.depth]
theorem scal_shape {v : V} {d : PyData} (h : Scal v d) : PyData.canLay0 d = true ∧ PyData.depth d = 0 := by
  rcases h with ⟨rfl, rfl⟩ | ⟨b, rfl, rfl⟩ | ⟨i, rfl, rfl⟩ | ⟨l, hl, rfl, rfl⟩
  · simp [PyData.canLay0, PyData.depth]
  · simp [PyData.canLay0, PyData.depth]
  · simp [PyData.canLay0, PyData.depth]
  · exact ⟨lay_dS hl, dep_dS⟩
theorem plain_tags : plain sTuple ∧ plain sList ∧ plain sTruth ∧ plain sPlain := by
  refine ⟨?_, ?_, ?_, ?_⟩ <;> (intro c hc; revert c; decide)
def tagOf : PyData → List Nat
  | .bool _ => sTruth
  | _ => sPlain
theorem mem_get {α : Type} {l : List α} {x : α} (h : x ∈ l) : ∃ i : Nat, l[i]? = some x := List.mem_iff_getElem?.mp h
end WB
namespace WB
open PySem PySem.Spec PyProof.Rows L2
def sDict : List Nat := [100, 105, 99, 116]
theorem plain_dict : plain sDict := by intro c hc; revert c; decide
theorem plain_a : plain [97] := by intro c hc; revert c; decide
def Dx (K : PySem.W.Frag) (H : Hp) : Nat → V → PyData → Prop
  | 0, v, d => Scal v d
  | n + 1, v, d => Scal v d ∨ (∃ a xs ds, v = .ref a ∧ d = .tuple ds ∧ SqT K H a xs ∧ xs.length ≤ 1000 ∧ ds.length = xs.length ∧ ∀ (i : Nat) x e, xs[i]? = some x → ds[i]? = some e → Dx K H n x e) ∨
    (∃ a xs ds, v = .ref a ∧ d = .list ds ∧ H a = some (.lst xs) ∧ xs.length ≤ 1000 ∧ ds.length = xs.length ∧ ∀ (i : Nat) x e, xs[i]? = some x → ds[i]? = some e → Dx K H n x e) ∨
    (∃ a, v = .ref a ∧ d = .dict [] ∧ H a = some (.dK [])) ∨ (∃ a y e, v = .ref a ∧ d = .dict [(dS [97], e)] ∧ H a = some (.dK [(kA, y)]) ∧ Dd K H n y e)
def faceX : Nat → PyData → PyData
  | _, .bool b => .list [dS sTruth, .bool b]
  | n + 1, .tuple ds => .list (dS sTuple :: ds.map (faceX n))
  | n + 1, .list ds => .list (dS sList :: ds.map (faceX n))
  | n + 1, .dict es => .list (dS sDict :: es.map fun e => .list [faceX n e.1, faceX n e.2])
  | _, d => .list [dS sPlain, d]
theorem Fr.up {F : Addr → Prop} {H : Hp} : ∀ (n : Nat) (v : V) (d : PyData), Fr F H n v d → Fr F H (n + 1) v d
  | 0, _, _, h => .inl h
  | n + 1, v, d, h => by
    rcases h with h | ⟨a, xs, ds, rfl, rfl, f, h1, hl, h2⟩
    · exact .inl h
    · exact .inr ⟨a, xs, ds, rfl, rfl, f, h1, hl, fun i x e hx he => Fr.up n x e (h2 i x e hx he)⟩
theorem Fr.le {F : Addr → Prop} {H : Hp} {n m : Nat} {v : V} {d : PyData} (hm : n ≤ m) (h : Fr F H n v d) : Fr F H m v d := by
  induction hm with
  | refl => exact h
  | step _ ih => exact Fr.up _ _ _ ih
def sp_law_faceX (K : PySem.W.Frag) : Nat → Sp
  | 0 => fun _ _ _ _ => False
  | n + 1 => fun vs H Q _ => ∃ v, vs = [v] ∧ ∃ d, Dx K H n v d ∧ ∀ r H', H r = none → Ex [] H H' → Fr (fun a => H a = none) H' (2 * n + 1) (.ref r) (faceX n d) → Q (.ref r) H'
theorem Dd.dx {K : PySem.W.Frag} {H : Hp} : ∀ (n : Nat) (v : V) (d : PyData), Dd K H n v d → Dx K H n v d
  | 0, _, _, h => h
  | n + 1, v, d, h => by
    rcases h with h | ⟨a, xs, ds, rfl, rfl, h1, hn, hl, h2⟩ | ⟨a, xs, ds, rfl, rfl, h1, hn, hl, h2⟩
    · exact .inl h
    · exact .inr (.inl ⟨a, xs, ds, rfl, rfl, h1, hn, hl, fun i x e hx he => Dd.dx n x e (h2 i x e hx he)⟩)
    · exact .inr (.inr (.inl ⟨a, xs, ds, rfl, rfl, h1, hn, hl, fun i x e hx he => Dd.dx n x e (h2 i x e hx he)⟩))
theorem Dx.ex {K : PySem.W.Frag} {H H' : Hp} (e : Ex [] H H') : ∀ (n : Nat) (v : V) (d : PyData), Dx K H n v d → Dx K H' n v d
  | 0, _, _, h => h
  | n + 1, v, d, h => by
    rcases h with h | ⟨a, xs, ds, rfl, rfl, h1, hn, hl, h2⟩ | ⟨a, xs, ds, rfl, rfl, h1, hn, hl, h2⟩ | ⟨a, rfl, rfl, h1⟩ | ⟨a, y, e1, rfl, rfl, h1, h2⟩
    · exact .inl h
    · exact .inr (.inl ⟨a, xs, ds, rfl, rfl, e.sqT (by simp) h1, hn, hl, fun i x y hx hy => Dx.ex e n x y (h2 i x y hx hy)⟩)
    · exact .inr (.inr (.inl ⟨a, xs, ds, rfl, rfl, e.get0 h1, hn, hl, fun i x y hx hy => Dx.ex e n x y (h2 i x y hx hy)⟩))
    · exact .inr (.inr (.inr (.inl ⟨a, rfl, rfl, e.get0 h1⟩)))
    · exact .inr (.inr (.inr (.inr ⟨a, y, e1, rfl, rfl, e.get0 h1, Dd.ex e n _ _ h2⟩)))
theorem SqT.lock {K : PySem.W.Frag} {H : Hp} {a d : Addr} {xs : List V} {u f : HO} (hd : H d = some u) (hu : ∀ ys, u ≠ .tup ys) (hf : ∀ o ys, u ≠ .frz o (.tup ys)) (h : SqT K H a xs) : SqT K (upd H d f) a xs := by
  have ne : ∀ w, H a = some w → (∀ z, w = z → z = u → False) → upd H d f a = some w := fun w hw hz => by
    rw [upd_ne (fun z => ?_)]
    · exact hw
    · rw [z, hd] at hw
      exact hz w rfl (Option.some.inj hw).symm
  rcases h with (h | ⟨o, h⟩) | h
  · exact .inl (.inl (ne _ h fun z e1 e2 => hu _ (e2.symm.trans e1.symm)))
  · exact .inl (.inr ⟨o, ne _ h fun z e1 e2 => hf _ _ (e2.symm.trans e1.symm)⟩)
  · exact .inr h
theorem Dd.lock {K : PySem.W.Frag} {H : Hp} {d : Addr} {kvs : List (Key × V)} {f : HO} (hd : H d = some (.dK kvs)) : ∀ (n : Nat) (v : V) (e : PyData), Dd K H n v e → Dd K (upd H d f) n v e
  | 0, _, _, h => h
  | n + 1, v, e, h => by
    rcases h with h | ⟨a, xs, ds, rfl, rfl, h1, hn, hl, h2⟩ | ⟨a, xs, ds, rfl, rfl, h1, hn, hl, h2⟩
    · exact .inl h
    · exact .inr (.inl ⟨a, xs, ds, rfl, rfl, SqT.lock hd (fun _ z => by cases z) (fun _ _ z => by cases z) h1, hn, hl, fun i x y hx hy => Dd.lock hd n x y (h2 i x y hx hy)⟩)
    · refine .inr (.inr ⟨a, xs, ds, rfl, rfl, ?_, hn, hl, fun i x y hx hy => Dd.lock hd n x y (h2 i x y hx hy)⟩)
      rw [upd_ne (fun z => ?_)]
      · exact h1
      · rw [z, hd] at h1
        cases h1
theorem face_scalX {n : Nat} {v : V} {d : PyData} (h : Scal v d) : faceX n d = .list [dS (tagOf d), d] := by
  rcases h with ⟨rfl, rfl⟩ | ⟨b, rfl, rfl⟩ | ⟨i, rfl, rfl⟩ | ⟨l, hl, rfl, rfl⟩ <;> cases n <;> rfl
theorem tag_plain {v : V} {d : PyData} (h : Scal v d) : plain (tagOf d) := by
  rcases h with ⟨rfl, rfl⟩ | ⟨b, rfl, rfl⟩ | ⟨i, rfl, rfl⟩ | ⟨l, hl, rfl, rfl⟩
  · exact plain_tags.2.2.2
  · exact plain_tags.2.2.1
  · exact plain_tags.2.2.2
  · exact plain_tags.2.2.2
theorem lay_list {m : Nat} {ds : List PyData} (h : ∀ e ∈ ds, PyData.canLay0 e = true ∧ PyData.depth e ≤ m) : PyData.canLay0 (.list ds) = true ∧ PyData.depth (.list ds) ≤ m + 1 := by
  constructor
  · rw [PyData.canLay0]
    exact lay_all fun e he => (h e he).1
  · rw [PyData.depth]
    have := dep_all fun e he => (h e he).2
    omega
theorem Fr.shape {F : Addr → Prop} {H : Hp} : ∀ (n : Nat) (v : V) (d : PyData), Fr F H n v d → PyData.canLay0 d = true ∧ PyData.depth d ≤ n
  | 0, v, d, h => by
    obtain ⟨h1, h2⟩ := scal_shape h
    exact ⟨h1, by omega⟩
  | n + 1, v, d, h => by
    rcases h with h | ⟨a, xs, ds, rfl, rfl, f, h1, hl, h2⟩
    · obtain ⟨h1, h2⟩ := scal_shape h
      exact ⟨h1, by omega⟩
    · refine lay_list fun e he => ?_
      obtain ⟨i, hi⟩ := mem_get he
      have hlt : i < xs.length := by
        have := (List.getElem?_eq_some_iff.mp hi).1
        omega
      exact Fr.shape n _ _ (h2 i xs[i] e (List.getElem?_eq_getElem hlt) hi)
theorem Fr.shaped {F : Addr → Prop} {H : Hp} {n : Nat} {v : V} {d : PyData} (hn : n ≤ 20) (h : Fr F H n v d) : SeqAt.shaped d = true := by
  obtain ⟨h1, h2⟩ := Fr.shape n v d h
  unfold SeqAt.shaped
  exact Bool.and_eq_true_iff.mpr ⟨h1, decide_eq_true (by omega)⟩
section
variable {K : PySem.W.Frag} {H : Hp} {Q : VK} {E : XK}
theorem s_neFr {F F' : Addr → Prop} {n m : Nat} {x y : V} {d : PyData} (hn : n ≤ 20) (h1 : Fr F H n x d) (h2 : Fr F' H m y d) (k : Q (.bl false) H) : rNeD K x y H Q := by
  have hs := h1.shaped hn
  refine ⟨_, _, Fr.dp n x _ h1, Fr.dp m y _ h2, hs, hs, ?_⟩
  rw [SeqAt.eqv_refl _ (Bool.and_eq_true_iff.mp hs).1]
  exact k
theorem s_eqFr {F F' : Addr → Prop} {n m : Nat} {x y : V} {d : PyData} (hn : n ≤ 20) (h1 : Fr F H n x d) (h2 : Fr F' H m y d) (k : Q (.bl true) H) : rEqD K x y H Q := by
  have hs := h1.shaped hn
  refine ⟨_, _, Fr.dp n x _ h1, Fr.dp m y _ h2, hs, hs, ?_⟩
  rw [SeqAt.eqv_refl _ (Bool.and_eq_true_iff.mp hs).1]
  exact k
theorem u_faceX {n : Nat} {v : V} {d : PyData} (h : Dx K H n v d) (k : ∀ r H', H r = none → Ex [] H H' → Fr (fun a => H a = none) H' (2 * n + 1) (.ref r) (faceX n d) → Q (.ref r) H') : sp_law_faceX K (n + 1) ([v] ++ []) H Q E := ⟨v, rfl, d, h, k⟩
theorem s_lockE {t : TE} {σ : St} {d : Addr} {kvs : List (Key × V)} (hd : H d = some (.dK kvs)) (k : ∀ od, t σ (upd H d (.frz od (.dK kvs))) fun v H' => H' d = some (.frz od (.dK kvs)) ∧ Q v (upd H' d (.dK kvs))) : tLockE t σ H Q := ⟨d, _, hd, True.intro, k⟩
theorem s_iKeys {te : TE} {σ : St} {R : It → Hp → Prop} (k : te σ H fun x H1 => ∃ d o, x = .ref d ∧ ((∃ kvs, H1 d = some (.frz o (.dK kvs)) ∧ R (Itk d o kvs) H1) ∨ ∃ kvs, H1 d = some (.frz o (.dT kvs)) ∧ R (Itkt d o kvs) H1)) : iKeys te σ H R := k
theorem lc_none {d : Addr} {o : Obj} {g : TG} {tt : TT} {te : TE} {vs : List Nat} {σ : St} (hd : H d = some (.frz o (.dK []))) (k : ∀ D, H D = none → Q (.ref D) (upd H D (.lst []))) : LcW (Itk d o []) g tt te vs σ H Q := by
  intro D hD
  refine ⟨fun i m H' => H' = upd H D (.lst []), ⟨0, rfl⟩, fun i m H' e => .inl ⟨⟨?_, Nat.zero_le _⟩, ?_⟩⟩
  · rw [e, upd_ne (ne_of_none hd hD)]
    exact hd
  · rw [e]
    exact k D hD
theorem lc_one {d : Addr} {o : Obj} {z : Key} {v1 : V} {te : TE} {j : Nat} {σ : St} (hd : H d = some (.frz o (.dK [(z, v1)])))
    (h : ∀ D, H D = none → ∀ C : VK, (∀ y H4, H4 D = some (.lst []) → H4 d = some (.frz o (.dK [(z, v1)])) → Q (.ref D) (upd H4 D (.lst [y])) → C y H4) → te ((wipe σ [j]).set j (some (kV z))) (upd H D (.lst [])) C) : LcW (Itk d o [(z, v1)]) (gName j) tYes te [j] σ H Q := by
  intro D hD
  have nd : d ≠ D := ne_of_none hd hD
  refine ⟨fun i m H' => (i = 0 ∧ m = 1 ∧ H' = upd H D (.lst [])) ∨ (i = 1 ∧ m = 0 ∧ H' d = some (.frz o (.dK [(z, v1)])) ∧ Q (.ref D) H'), ⟨1, .inl ⟨rfl, rfl, rfl⟩⟩, fun i m H' hw => ?_⟩
  rcases hw with ⟨rfl, rfl, rfl⟩ | ⟨rfl, rfl, h1, h2⟩
  · refine .inr ⟨⟨by rw [upd_ne nd]; exact hd, Nat.zero_lt_one⟩, fun H' => H' d = some (.frz o (.dK [(z, v1)])) ∧ Q (.ref D) H', fun H' h1 => ⟨0, by decide, .inr ⟨rfl, rfl, h1.1, h1.2⟩⟩, ?_⟩
    rintro x H2 ⟨rfl, k0, v0, hk, rfl⟩
    cases hk
    refine ⟨wipe1 _ _ _, ?_⟩
    refine s_yes ?_
    refine s_T rfl ?_
    refine h D hD _ fun y H4 h3 h4 h5 => ⟨[], h3, by decide, ?_, h5⟩
    rw [upd_ne nd]
    exact h4
  · exact .inl ⟨⟨h1, Nat.le_refl _⟩, h2⟩
theorem lock_ex {a : Addr} {u f : HO} {H' : Hp} (ha : H a = some u) (e : Ex [] (upd H a f) H') : Ex [] H (upd H' a u) := by
  intro b o nb hb
  by_cases h : b = a
  · subst h
    rw [ha] at hb
    rw [← hb, upd_same]
  · rw [upd_ne h]
    exact e b o nb (by rw [upd_ne h]; exact hb)
end
end WB
namespace WB
open PySem PySem.Spec PyProof.Rows L2 LamX
def tTryL (K : PySem.W.Frag) (l : List Cl) (tb : WX → TS) : TS := fun D σ H => tb (wList K D l) D σ H
theorem FunD_okC {P : Program} {w : World} {K : PySem.W.Frag} {mg : Str → Option Value} {base : Heap} {CX : CXT} {x qual : Str} {params : Arguments} {body : List Stmt} {scope : Scope} {dvs kws} {fd : FuncData} {N ps : List Str} {k : Nat} {sp : Sp} (F : FunD K x qual params body scope dvs kws (He.ga K x) fd) (S : FnScope N ps scope) (len : ∀ vs H Q E, sp vs H Q E → vs.length = ps.length)
    (hbody : ∀ (A : Around) (outer : List Env) (s : Shared) (H : Hp) (vs : List V) (Q : VK) (E : XK), Room k (A.deeper (envOfC qual scope s.heap.objs.size (He.ga K x) (.ref (He.cT K (x, none)).1))) → sp vs H Q E →
      ∃ t, PSs (cxOf CX P w K mg base N qual scope (He.ga K x) (.ref (He.cT K (x, none)).1) A outer s H E) body t ∧ t { nx := fun _ H' => Q .non H', rt := Q } (start N vs) H) : FnOk P w K mg base CX (k + 1) (He.ga K x) fd ps sp := by
  obtain ⟨oc, od, dV, kV, doc, pm, an, cdv, ct, osl, rfl, lk, hcd, _, _⟩ := F.ex
  obtain ⟨c, rfl⟩ := He.codeIn_ref hcd
  have e : He.codeOf K (x, none) = c := He.codeOf_eq (p := (x, none)) lk rfl
  refine fn_of lk hcd S len fun A outer s H vs Q E hr hsp => ?_
  have h := hbody A outer s H vs Q E
  unfold He.cT at h
  rw [e] at h
  exact h hr hsp
def sNothing : List Nat := [110, 111, 116, 104, 105, 110, 103]
def Rsd (K : PySem.W.Frag) (H : Hp) (E : XK) (C f : Str) (v : V) : Prop := ∀ d H', H d = none → Ex [] H H' → H' d = some (.xd [(f, v)]) → E (.ref (He.ga K C)) (some d) H'
theorem rsd_of {K : PySem.W.Frag} {fI : Addr} {C f : Str} {E : XK} {H0 H : Hp} {v : V} (T : ExcK K (He.ga K C) fI f) (e : Ex [] H0 H) (h : Rsd K H0 E C f v) :
    [v].length ≤ 1000 ∧ ∀ a, H a = none → sp_exc K (He.ga K C) f (.ref a :: ([v] ++ [])) (upd H a (exo a (He.ga K C) none))
      (fun z H2 => z = .non ∧ ∃ (d : Addr) (fs : List (Str × V)), H2 a = some (exo a (He.ga K C) (some d)) ∧ H2 d = some (exd d fs) ∧ H d = none ∧ E (.ref (He.ga K C)) (some d) (upd (del H2 a) d (.xd fs))) (fun _ _ _ => False) :=
  rs_of T fun d hd => h d _ (e.free hd) (e.trans (Ex.new hd)) upd_same
section
variable {K : PySem.W.Frag} {H : Hp} {Q : VK} {E : XK}
theorem s_lam {T : List (Addr × Str)} {TT : (XK → Hp → VK → Prop) → Hp → VK → Prop} {t : XK → TE} {σ : St} (hT : Tabs T H) (k : ∀ H1, ExtN H H1 → Tabs T H1 → TT (fun E H' Q' => t E σ H' Q') H1 Q) : tLam T TT t σ H Q := ⟨hT, k⟩
theorem s_rs {C : Addr} {f : Str} {ta : TA} {D : Ends} {σ : St} (k : ta σ H fun vs H1 => vs.length ≤ 1000 ∧ ∀ a, H1 a = none → sp_exc K C f (.ref a :: (vs ++ [])) (upd H1 a (exo a C none))
  (fun v H2 => v = .non ∧ ∃ (d : Addr) (fs : List (Str × V)), H2 a = some (exo a C (some d)) ∧ H2 d = some (exd d fs) ∧ H1 d = none ∧ E (.ref C) (some d) (upd (del H2 a) d (.xd fs))) (fun _ _ _ => False)) : tRs K C f E ta D σ H := k
theorem s_tryL {l : List Cl} {tb : WX → TS} {D : Ends} {σ : St} (k : tb (wList K D l) D σ H) : tTryL K l tb D σ H := k
theorem s_act {f c' : Addr} {q : Str} {tl : XK → Hp → VK → Prop} {W : WX} {σ : St} (h0 : σ[0]? = some (some (.ref f))) (h1 : H c' = some (CodeO c' q)) {E1 : XK} {Q1 : VK} (hE : ∀ c d H', E1 c d H' → W c d σ H') (hQ : ∀ v H', Q1 v H' → Q v H') (h : tl E1 H Q1) : tAct f c' q tl W σ H Q := ⟨h0, h1, E1, Q1, hE, hQ, h⟩
theorem s_xf {a C : Addr} {cls : Value} {d : Option Addr} {f : Str} {te : TE} {σ : St} (k : te σ H fun x H1 => x = .ref a ∧ cls = .ref C ∧ ∃ (dd : Addr) (fs : List (Str × V)) (v : V), d = some dd ∧ H1 dd = some (.xd fs) ∧ fs.lookup f = some v ∧ Q v H1) : tXf a cls d C f te σ H Q := k
end
end WB
namespace WB
open PySem PySem.Spec PyProof.Rows L2
end WB
namespace WB
open PySem PySem.Spec PyProof.Rows L2
section
variable {X : Cx}
def tDcT (wi : TI) (g : TG) (tt : TT) (tk tv : TE) (vs : List Nat) : TE := fun σ H Q => wi σ H fun J H1 => ∀ D, H1 D = none → ∃ W : Nat → Nat → Hp → Prop, (∃ m, W 0 m (upd H1 D (.dT []))) ∧ ∀ i m H, W i m H →
  (J.stop i H ∧ Q (.ref D) H) ∨ (J.go i H ∧ ∃ Nx : Hp → Prop, (∀ H', Nx H' → ∃ m', m' < m ∧ W (i + 1) m' H') ∧ ∀ x H', J.yld i H x H' → g x (wipe σ vs) H' fun σ2 H2 => wipe σ2 vs = wipe σ vs ∧ tt σ2 H2 fun c H3 =>
    if c = true then tk σ2 H3 fun y H4 => tv σ2 H4 fun z H5 => ∃ kvs k b, y = .ref b ∧ H5 b = some (.tup (k.map kV)) ∧ H5 D = some (.dT kvs) ∧ kvs.length < sizeLine ∧ Nx (upd H5 D (.dT (putK kvs k z))) else Nx H3)
end
end WB
namespace WB
open PySem PySem.Spec PyProof.Rows L2
def MakeKG (C : Addr) (n m : Nat) (sp : Sp) (gV : List V → List V → List V) (E : XK) (vs zs : List V) (H : Hp) (Q : VK) : Prop := vs.length = n ∧ zs.length = m ∧ ∀ x dx, H x = none → H dx = none → dx ≠ x → sp (gV (.ref x :: vs) zs) (upd (upd H dx (.own x)) x (.ins C dx [])) (fun v H3 => v = .non ∧ Q (.ref x) H3) E
theorem s_makeK {C : Addr} {n m : Nat} {sp : Sp} {gV : List V → List V → List V} {E : XK} {t tk : TA} {σ : L2.St} {H : Hp} {Q : VK} (k : t σ H fun vs H1 => tk σ H1 fun zs H2 => MakeKG C n m sp gV E vs zs H2 Q) : tMakeK C n m sp gV E t tk σ H Q := k
end WB
namespace WB
open PySem PySem.Spec PyProof.Rows L2 ClX
section
variable {X : Cx} {CX : CXT} {k n : Nat} {C p g : Addr} {fd : FuncData} {ps ks : List Str} {mc : Value} {sp : Sp} {E : XK} {o e : Expr} {es : List Expr} {f m x : Str} {pos apos q1 : Pos} {ta : TE} {t tk : TA} {pl : Sem Bool} {kws : List Keyword} {gS : List Value → List Value → List Value} {gV : List V → List V → List V} {dvs : List V} {ds : List Value}
def tCMethK (C : Addr) (n : Nat) (sp : Sp) (gV : List V → List V → List V) (E : XK) (ta : TE) (tk : TA) : TE := fun σ H Q => ta σ H fun x H1 => x = .ref C ∧ tk σ H1 fun zs H2 => zs.length = n ∧ sp (gV [.ref C] zs) H2 Q E
end
end WB
namespace WB
open PySem PySem.Spec PyProof.Rows L2
section
variable {K : PySem.W.Frag} {H H' : Hp} {a b p : Addr} {l l' : List Nat} {ps ps' : List (List Nat)} {Q : VK} {E : XK}
def sp_Kind_signs (K : PySem.W.Frag) : Sp := fun vs H Q _ => ∃ a : Addr, vs = [.ref a] ∧ ∃ l ps, KindAt K H a l ps ∧ Q (vS l) H
def RowAt (K : PySem.W.Frag) (H : Hp) (q : Addr) (l : List Nat) (ps : List (List Nat)) : Prop := ∃ t, SqT K H q [vS l, .ref t] ∧ SqT K H t (ps.map vS)
theorem RowAt.ex0 (e : Ex [] H H') (h : RowAt K H a l ps) : RowAt K H' a l ps := by
  obtain ⟨t, h1, h2⟩ := h
  exact ⟨t, e.sqT (by simp) h1, e.sqT (by simp) h2⟩
theorem u_kSigns (h : KindAt K H a l ps) (k : Q (vS l) H) : PropG (He.ga K "Kind") (sp_Kind_signs K) [] E (.ref a) H Q := by
  obtain ⟨dx, t, h1, h2⟩ := id h
  exact ⟨a, dx, _, rfl, h1, a, rfl, l, ps, h, k⟩
theorem s_cmeth {C : Addr} {sp : Sp} {E : XK} {ta : TE} {tr : TA} {σ : St} (k : ta σ H fun x H1 => x = .ref C ∧ tr σ H1 fun vs H2 => sp (.ref C :: vs) H2 Q E) : ClX.tCMeth C sp E ta tr σ H Q := k
theorem s_cmethK {C : Addr} {n : Nat} {gV : List V → List V → List V} {sp : Sp} {E : XK} {ta : TE} {tr : TA} {σ : St} (k : ta σ H fun x H1 => x = .ref C ∧ tr σ H1 fun zs H2 => zs.length = n ∧ sp (gV [.ref C] zs) H2 Q E) : tCMethK C n sp gV E ta tr σ H Q := k
theorem s_self {x : V} {A : Prop} (k : A) : x = x ∧ A := ⟨rfl, k⟩
end
theorem let_plain {c : Nat} (h : c ∈ LET) : c < 55296 := by
  simp only [LET, List.mem_cons, List.not_mem_nil, or_false] at h
  omega
end WB
namespace WB
open PySem PySem.Spec PyProof.Rows L2
end WB
namespace WB
open PySem PySem.Spec PyProof.Rows L2
theorem lit_116_117_112_108_101 : ("tuple" : Str) = S [116, 117, 112, 108, 101] := by decide +kernel
theorem lit_108_105_115_116 : ("list" : Str) = S [108, 105, 115, 116] := by decide +kernel
theorem lit_100_105_99_116 : ("dict" : Str) = S [100, 105, 99, 116] := by decide +kernel
theorem lit_116_114_117_116_104 : ("truth" : Str) = S [116, 114, 117, 116, 104] := by decide +kernel
theorem lit_112_108_97_105_110 : ("plain" : Str) = S [112, 108, 97, 105, 110] := by decide +kernel
end WB
namespace WB
open PySem PySem.Spec PyProof.Rows L2
def MRK : List Nat := LET ++ [48, 49, 50, 51, 52, 53, 54, 55, 56, 57]
theorem lit_MRK : ("abcdefghijklmnopqrstuvwxyz0123456789" : Str) = S MRK := by decide +kernel
structure Rw where
  a : List Nat
  c : Nat
  b : List Nat
  n : Int
structure Tn where
  a : List Nat
  b : List Nat
  n : Int
structure LM where
  ab : List Nat
  st : List (List Nat)
  tb : List Nat → Nat → List Nat × Int
  en : List Nat → List Nat × Int
  ok : List (List Nat)
def rwV (r : Rw) : List V := [vS r.a, vS [r.c], vS r.b, .int r.n]
def tnV (t : Tn) : List V := [vS t.a, vS t.b, .int t.n]
def TupsAt (K : PySem.W.Frag) (H : Hp) (t : Addr) (ls : List (List V)) : Prop := ∃ xs, SqT K H t xs ∧ xs.length = ls.length ∧ ∀ (i : Nat) x l, xs[i]? = some x → ls[i]? = some l → ∃ p, x = .ref p ∧ SqT K H p l
section
variable {K : PySem.W.Frag} {H H' : Hp} {Q : VK} {E : XK} {t a : Addr}
theorem TupsAt.ex0 {ls : List (List V)} (e : Ex [] H H') (h : TupsAt K H t ls) : TupsAt K H' t ls := by
  obtain ⟨xs, h1, h2, h3⟩ := h
  refine ⟨xs, e.sqT (by simp) h1, h2, fun i x l hx hl => ?_⟩
  obtain ⟨p, h4, h5⟩ := h3 i x l hx hl
  exact ⟨p, h4, e.sqT (by simp) h5⟩
theorem TupsAt.exP {ls : List (List V)} (hp : PoolAt H a) (e : Ex [a] H H') (h : TupsAt K H t ls) : TupsAt K H' t ls := by
  obtain ⟨xs, h1, h2, h3⟩ := h
  refine ⟨xs, sqT_pool hp e h1, h2, fun i x l hx hl => ?_⟩
  obtain ⟨p, h4, h5⟩ := h3 i x l hx hl
  exact ⟨p, h4, sqT_pool hp e h5⟩
end
end WB
namespace WB
open PySem PySem.Spec PyProof.Rows L2
section
variable {K : PySem.W.Frag} {vs : List V} {H : Hp} {Q : VK} {E : XK}
def PrsAt (K : PySem.W.Frag) (H : Hp) (q : Addr) (zs : List (List Nat × Nat)) : Prop := ∃ xs, H q = some (.lst xs) ∧ xs.length = zs.length ∧ ∀ (i : Nat) x z, xs[i]? = some x → zs[i]? = some z → ∃ p, x = .ref p ∧ SqT K H p [vS z.1, vS [z.2]]
theorem sqT_lst {q t : Addr} {xs ys : List V} {H' : Hp} (hq : H q = some (.lst xs)) (e : Ex [q] H H') (h : SqT K H t ys) : SqT K H' t ys := by
  rcases h with (h | ⟨o, h⟩) | h
  · exact e.sqT (by simp only [List.mem_singleton]; intro w; rw [w, hq] at h; cases h) (.inl (.inl h))
  · exact e.sqT (by simp only [List.mem_singleton]; intro w; rw [w, hq] at h; cases h) (.inl (.inr ⟨o, h⟩))
  · exact .inr h
theorem PrsAt.ex0 {q : Addr} {zs : List (List Nat × Nat)} {H' : Hp} (e : Ex [] H H') (h : PrsAt K H q zs) : PrsAt K H' q zs := by
  obtain ⟨xs, h1, h2, h3⟩ := h
  refine ⟨xs, e.get0 h1, h2, fun i x z hx hz => ?_⟩
  obtain ⟨p, h4, h5⟩ := h3 i x z hx hz
  exact ⟨p, h4, e.sqT (by simp) h5⟩
end
end WB
namespace WB
open PySem PySem.Spec PyProof.Rows L2
def kS (l : List Nat) : Key := .inr (S l)
def TabOk (K : PySem.W.Frag) (H : Hp) (kt : List (List Key × V)) (M : LM) : Prop := ∀ a ∈ M.st, ∀ c ∈ M.ab, ∃ p, valV kt [kS a, kS [c]] = some (.ref p) ∧ SqT K H p [vS (M.tb a c).1, .int (M.tb a c).2]
def EndOk (K : PySem.W.Frag) (H : Hp) (ke : List (Key × V)) (M : LM) : Prop := ∀ a ∈ M.st, ∃ p, valV ke (kS a) = some (.ref p) ∧ SqT K H p [vS (M.en a).1, .int (M.en a).2]
def LoopAt (K : PySem.W.Frag) (H : Hp) (x : Addr) (M : LM) : Prop := ∃ dx o tt te tm kt ke, H x = some (.ins (He.ga K "Loop") dx [("letters", vS M.ab), ("order", .ref o), ("table", .ref tt), ("ending", .ref te), ("marked", .ref tm)]) ∧
  SqT K H o (M.st.map vS) ∧ H tt = some (.dT kt) ∧ TabOk K H kt M ∧ H te = some (.dK ke) ∧ EndOk K H ke M ∧ SqT K H tm (M.ok.map vS)
section
variable {K : PySem.W.Frag} {H H' : Hp} {Q : VK} {E : XK} {x a : Addr} {M : LM}
theorem TabOk.ex0 {kt : List (List Key × V)} (e : Ex [] H H') (h : TabOk K H kt M) : TabOk K H' kt M := fun a ha c hc => by
  obtain ⟨p, h1, h2⟩ := h a ha c hc
  exact ⟨p, h1, e.sqT (by simp) h2⟩
theorem EndOk.ex0 {ke : List (Key × V)} (e : Ex [] H H') (h : EndOk K H ke M) : EndOk K H' ke M := fun a ha => by
  obtain ⟨p, h1, h2⟩ := h a ha
  exact ⟨p, h1, e.sqT (by simp) h2⟩
theorem TabOk.exP {kt : List (List Key × V)} (hp : PoolAt H a) (e : Ex [a] H H') (h : TabOk K H kt M) : TabOk K H' kt M := fun b hb c hc => by
  obtain ⟨p, h1, h2⟩ := h b hb c hc
  exact ⟨p, h1, sqT_pool hp e h2⟩
theorem EndOk.exP {ke : List (Key × V)} (hp : PoolAt H a) (e : Ex [a] H H') (h : EndOk K H ke M) : EndOk K H' ke M := fun b hb => by
  obtain ⟨p, h1, h2⟩ := h b hb
  exact ⟨p, h1, sqT_pool hp e h2⟩
theorem LoopAt.ex0 (e : Ex [] H H') (h : LoopAt K H x M) : LoopAt K H' x M := by
  obtain ⟨dx, o, tt, te, tm, kt, ke, h1, h2, h3, h4, h5, h6, h7⟩ := h
  exact ⟨dx, o, tt, te, tm, kt, ke, e.get0 h1, e.sqT (by simp) h2, e.get0 h3, h4.ex0 e, e.get0 h5, h6.ex0 e, e.sqT (by simp) h7⟩
theorem LoopAt.exP (hp : PoolAt H a) (e : Ex [a] H H') (h : LoopAt K H x M) : LoopAt K H' x M := by
  obtain ⟨dx, o, tt, te, tm, kt, ke, h1, h2, h3, h4, h5, h6, h7⟩ := h
  have hq := hp
  obtain ⟨y1, y2, y3, hq⟩ := hq
  exact ⟨dx, o, tt, te, tm, kt, ke, e.get (by simp only [List.mem_singleton]; intro w; rw [w, hq] at h1; cases h1) h1, sqT_pool hp e h2, e.get (by simp only [List.mem_singleton]; intro w; rw [w, hq] at h3; cases h3) h3, h4.exP hp e, e.get (by simp only [List.mem_singleton]; intro w; rw [w, hq] at h5; cases h5) h5, h6.exP hp e, sqT_pool hp e h7⟩
def DcTW (J : It) (g : TG) (tt : TT) (tk tv : TE) (vs : List Nat) (σ : St) (H1 : Hp) (Q : VK) : Prop := ∀ D, H1 D = none → ∃ W : Nat → Nat → Hp → Prop, (∃ m, W 0 m (upd H1 D (.dT []))) ∧ ∀ i m H, W i m H →
  (J.stop i H ∧ Q (.ref D) H) ∨ (J.go i H ∧ ∃ Nx : Hp → Prop, (∀ H', Nx H' → ∃ m', m' < m ∧ W (i + 1) m' H') ∧ ∀ x H', J.yld i H x H' → g x (wipe σ vs) H' fun σ2 H2 => wipe σ2 vs = wipe σ vs ∧ tt σ2 H2 fun c H3 =>
    if c = true then tk σ2 H3 fun y H4 => tv σ2 H4 fun z H5 => ∃ kvs k b, y = .ref b ∧ H5 b = some (.tup (k.map kV)) ∧ H5 D = some (.dT kvs) ∧ kvs.length < sizeLine ∧ Nx (upd H5 D (.dT (putK kvs k z))) else Nx H3)
theorem s_dcT {wi : TI} {g : TG} {tt : TT} {tk tv : TE} {vs : List Nat} {σ : St} (k : wi σ H fun J H1 => DcTW J g tt tk tv vs σ H1 Q) : tDcT wi g tt tk tv vs σ H Q := k
def DcW (J : It) (g : TG) (tt : TT) (tk tv : TE) (vs : List Nat) (σ : St) (H1 : Hp) (Q : VK) : Prop := ∀ D, H1 D = none → ∃ W : Nat → Nat → Hp → Prop, (∃ m, W 0 m (upd H1 D (.dK []))) ∧ ∀ i m H, W i m H →
  (J.stop i H ∧ Q (.ref D) H) ∨ (J.go i H ∧ ∃ Nx : Hp → Prop, (∀ H', Nx H' → ∃ m', m' < m ∧ W (i + 1) m' H') ∧ ∀ x H', J.yld i H x H' → g x (wipe σ vs) H' fun σ2 H2 => wipe σ2 vs = wipe σ vs ∧ tt σ2 H2 fun c H3 =>
    if c = true then tk σ2 H3 fun y H4 => tv σ2 H4 fun z H5 => ∃ kvs k, y = kV k ∧ H5 D = some (.dK kvs) ∧ kvs.length < sizeLine ∧ Nx (upd H5 D (.dK (putK kvs k z))) else Nx H3)
theorem s_dc {wi : TI} {g : TG} {tt : TT} {tk tv : TE} {vs : List Nat} {σ : St} (k : wi σ H fun J H1 => DcW J g tt tk tv vs σ H1 Q) : tDc wi g tt tk tv vs σ H Q := k
end
end WB
namespace WB
open PySem PySem.Spec PyProof.Rows L2
end WB
namespace WB
open PySem PySem.Spec PyProof.Rows L2
def stp (M : LM) (z : List Nat × Int) (c : Nat) : List Nat × Int := ((M.tb z.1 c).1, z.2 + (M.tb z.1 c).2)
def run (M : LM) (a : List Nat) (w : List Nat) : List Nat × Int := w.foldl (stp M) (a, 0)
end WB
namespace WB
open PySem PySem.Spec PyProof.Rows L2
end WB
namespace WB
open PySem PySem.Spec PyProof.Rows L2
def Tups (K : PySem.W.Frag) (H : Hp) (xs : List V) (ls : List (List V)) : Prop := xs.length = ls.length ∧ ∀ (i : Nat) x l, xs[i]? = some x → ls[i]? = some l → ∃ p, x = .ref p ∧ SqT K H p l
section
variable {K : PySem.W.Frag} {H H' : Hp} {Q : VK} {E : XK} {t a x : Addr} {M : LM} {xs : List V} {ls : List (List V)}
theorem TupsAt.mk (h : SqT K H t xs) (h2 : Tups K H xs ls) : TupsAt K H t ls := ⟨xs, h, h2.1, h2.2⟩
theorem Tups.ex0 (e : Ex [] H H') (h : Tups K H xs ls) : Tups K H' xs ls := ⟨h.1, fun i x l h1 h2 => by
  obtain ⟨p, h3, h4⟩ := h.2 i x l h1 h2
  exact ⟨p, h3, e.sqT (by simp) h4⟩⟩
theorem Tups.nil : Tups K H [] [] := ⟨rfl, by simp⟩
theorem sqT_upd {D : Addr} {o ys : List V} (hd : H D = none ∨ ∃ l, H D = some (.lst l)) (h : SqT K H t ys) : SqT K (upd H D (.lst o)) t ys := by
  rcases hd with hd | ⟨l, hd⟩
  · exact (Ex.new (m := []) hd).sqT (by simp) h
  · exact sqT_lst hd (Ex.put (by simp)) h
theorem Tups.upd {D : Addr} {o : List V} (hd : H D = none ∨ ∃ l, H D = some (.lst l)) (h : Tups K H xs ls) : Tups K (L2.upd H D (.lst o)) xs ls := ⟨h.1, fun i x l h1 h2 => by
  obtain ⟨p, h3, h4⟩ := h.2 i x l h1 h2
  exact ⟨p, h3, sqT_upd hd h4⟩⟩
def rwsOf (M : LM) : List Rw := M.st.flatMap fun a => M.ab.map fun c => ⟨a, c, (M.tb a c).1, (M.tb a c).2⟩
def tnsOf (M : LM) : List Tn := M.st.map fun a => ⟨a, (M.en a).1, (M.en a).2⟩
def LRowAt (K : PySem.W.Frag) (H : Hp) (p : Addr) (M : LM) : Prop := ∃ o r t y, SqT K H p [vS M.ab, .ref o, .ref r, .ref t, .ref y] ∧ SqT K H o (M.st.map vS) ∧ TupsAt K H r ((rwsOf M).map rwV) ∧ TupsAt K H t ((tnsOf M).map tnV) ∧ SqT K H y (M.ok.map vS)
theorem LRowAt.ex0 {p : Addr} (e : Ex [] H H') (h : LRowAt K H p M) : LRowAt K H' p M := by
  obtain ⟨o, r, t, y, h1, h2, h3, h4, h5⟩ := h
  exact ⟨o, r, t, y, e.sqT (by simp) h1, e.sqT (by simp) h2, h3.ex0 e, h4.ex0 e, e.sqT (by simp) h5⟩
end
end WB
namespace WB
open PySem PySem.Spec PyProof.Rows L2
end WB
namespace WB
open PySem PySem.Spec PyProof.Rows L2
theorem lit_z : ("z" : Str) = S [122] := by decide +kernel
def MAt (K : PySem.W.Frag) (H : Hp) (q : Addr) (M : LM) : Prop := ∃ po ss es oo kt ke, H q = some (.lst [vS M.ab, .ref po, .ref ss, .ref es, .ref oo]) ∧ H po = some (.lst (M.st.map vS)) ∧ H ss = some (.dT kt) ∧ TabOk K H kt M ∧ H es = some (.dK ke) ∧ EndOk K H ke M ∧ H oo = some (.lst (M.ok.map vS))
section
variable {K : PySem.W.Frag} {H H' : Hp} {Q : VK} {E : XK} {a q x : Addr} {M : LM}
theorem MAt.ex0 (e : Ex [] H H') (h : MAt K H q M) : MAt K H' q M := by
  obtain ⟨po, ss, es, oo, kt, ke, h1, h2, h3, h4, h5, h6, h7⟩ := h
  exact ⟨po, ss, es, oo, kt, ke, e.get0 h1, e.get0 h2, e.get0 h3, h4.ex0 e, e.get0 h5, h6.ex0 e, e.get0 h7⟩
theorem strs_ne {ls : List (List Nat)} {x y z : Int} (h : ls.map vS = [.int x, .int y, .int z]) : False := by
  match ls, h with
  | a :: l, h => cases (List.cons.inj h).1
theorem MAt.exP (hp : PoolAt H a) (e : Ex [a] H H') (h : MAt K H q M) : MAt K H' q M := by
  obtain ⟨po, ss, es, oo, kt, ke, h1, h2, h3, h4, h5, h6, h7⟩ := h
  have hq := hp
  obtain ⟨y1, y2, y3, hq⟩ := hq
  refine ⟨po, ss, es, oo, kt, ke, e.get ?_ h1, e.get ?_ h2, e.get ?_ h3, h4.exP hp e, e.get ?_ h5, h6.exP hp e, e.get ?_ h7⟩
  · simp only [List.mem_singleton]; intro w; rw [w, hq] at h1; cases h1
  · simp only [List.mem_singleton]; intro w; rw [w, hq] at h2; exact strs_ne (HO.lst.inj (Option.some.inj h2)).symm
  · simp only [List.mem_singleton]; intro w; rw [w, hq] at h3; cases h3
  · simp only [List.mem_singleton]; intro w; rw [w, hq] at h5; cases h5
  · simp only [List.mem_singleton]; intro w; rw [w, hq] at h7; exact strs_ne (HO.lst.inj (Option.some.inj h7)).symm
theorem LoopAt.same {M' : LM} (h1 : M'.ab = M.ab) (h2 : M'.st = M.st) (h3 : ∀ a ∈ M.st, ∀ c ∈ M.ab, M'.tb a c = M.tb a c) (h4 : ∀ a ∈ M.st, M'.en a = M.en a) (h5 : M'.ok = M.ok) (h : LoopAt K H x M) : LoopAt K H x M' := by
  obtain ⟨dx, o, tt, te, tm, kt, ke, z1, z2, z3, z4, z5, z6, z7⟩ := h
  refine ⟨dx, o, tt, te, tm, kt, ke, by rw [h1]; exact z1, by rw [h2]; exact z2, z3, fun a ha c hc => ?_, z5, fun a ha => ?_, by rw [h5]; exact z7⟩
  · rw [h2] at ha
    rw [h1] at hc
    rw [h3 a ha c hc]
    exact z4 a ha c hc
  · rw [h2] at ha
    rw [h4 a ha]
    exact z6 a ha
end
end WB
namespace WB
open PySem PySem.Spec PyProof.Rows L2
theorem lit_122 : ("z" : Str) = S [122] := by decide +kernel
end WB
namespace WB
open PySem PySem.Spec PyProof.Rows L2
section
variable {K : PySem.W.Frag} {vs : List V} {H H' : Hp} {Q : VK} {E : XK} {x q : Addr} {M : LM}
def TE1 (K : PySem.W.Frag) (H : Hp) (st : List (List Nat)) (kt : List (List Key × V)) (b : List Nat) (c : Nat) : Prop := ∃ (z : List Nat × Int) (p : Addr), valV kt [kS b, kS [c]] = some (.ref p) ∧ SqT K H p [vS z.1, .int z.2] ∧ z.1 ∈ st ∧ z.2.natAbs ≤ 2 ^ 200
def EE1 (K : PySem.W.Frag) (H : Hp) (st : List (List Nat)) (ke : List (Key × V)) (b : List Nat) : Prop := ∃ (z : List Nat × Int) (p : Addr), valV ke (kS b) = some (.ref p) ∧ SqT K H p [vS z.1, .int z.2] ∧ z.1 ∈ st ∧ z.2.natAbs ≤ 2 ^ 200
structure MSt (K : PySem.W.Frag) (H0 : Hp) (a po ss es : Addr) (st : List (List Nat)) (D : List Nat → Nat → Prop) (D2 : List Nat → Prop) (n : Nat) (H : Hp) : Prop where
  ex : Ex [a] H0 H
  pool : PoolAt H a
  po : H po = some (.lst (st.map vS))
  tb : ∃ kt, H ss = some (.dT kt) ∧ kt.length ≤ n ∧ ∀ b c, D b c → TE1 K H st kt b c
  en : ∃ ke, H es = some (.dK ke) ∧ ke.length ≤ n ∧ ∀ b, D2 b → EE1 K H st ke b
section
variable {H0 : Hp} {a po ss es : Addr} {st : List (List Nat)} {D : List Nat → Nat → Prop} {D2 : List Nat → Prop} {n : Nat}
theorem MSt.ex0 (e : Ex [] H H') (m : MSt K H0 a po ss es st D D2 n H) : MSt K H0 a po ss es st D D2 n H' := by
  obtain ⟨h1, h2, h3, ⟨kt, h4, h5, h6⟩, ⟨ke, h7, h8, h9⟩⟩ := m
  refine ⟨h1.trans e.wide, h2.ex e (by simp), e.get0 h3, ⟨kt, e.get0 h4, h5, fun b c d => ?_⟩, ⟨ke, e.get0 h7, h8, fun b d => ?_⟩⟩
  · obtain ⟨z, p, z1, z2, z3⟩ := h6 b c d
    exact ⟨z, p, z1, e.sqT (by simp) z2, z3⟩
  · obtain ⟨z, p, z1, z2, z3⟩ := h9 b d
    exact ⟨z, p, z1, e.sqT (by simp) z2, z3⟩
end
end
end WB
namespace WB
open PySem PySem.Spec PyProof.Rows L2
end WB
namespace WB
open PySem PySem.Spec PyProof.Rows L2
section
variable {K : PySem.W.Frag} {H H' : Hp} {Q : VK} {E : XK} {a p q x : Addr} {M : LM} {σ : St}
theorem Dd.shape : ∀ (n : Nat) (v : V) (d : PyData), Dd K H n v d → PyData.canLay0 d = true ∧ PyData.depth d ≤ n
  | 0, v, d, h => by
    obtain ⟨h1, h2⟩ := scal_shape h
    exact ⟨h1, by omega⟩
  | n + 1, v, d, h => by
    have parts : ∀ (xs : List V) (ds : List PyData), ds.length = xs.length → (∀ (i : Nat) x e, xs[i]? = some x → ds[i]? = some e → Dd K H n x e) → ∀ e ∈ ds, PyData.canLay0 e = true ∧ PyData.depth e ≤ n := fun xs ds hl h e he => by
      obtain ⟨i, hi⟩ := mem_get he
      have hlt : i < xs.length := by
        have := (List.getElem?_eq_some_iff.mp hi).1
        omega
      exact Dd.shape n xs[i] e (h i xs[i] e (List.getElem?_eq_getElem hlt) hi)
    rcases h with h | ⟨a, xs, ds, rfl, rfl, h1, hn, hl, h2⟩ | ⟨a, xs, ds, rfl, rfl, h1, hn, hl, h2⟩
    · obtain ⟨h1, h2⟩ := scal_shape h
      exact ⟨h1, by omega⟩
    · have pp := parts xs ds hl h2
      refine ⟨by rw [PyData.canLay0]; exact lay_all fun e he => (pp e he).1, ?_⟩
      rw [PyData.depth]
      have := dep_all (m := n) fun e he => (pp e he).2
      omega
    · have pp := parts xs ds hl h2
      refine ⟨by rw [PyData.canLay0]; exact lay_all fun e he => (pp e he).1, ?_⟩
      rw [PyData.depth]
      have := dep_all (m := n) fun e he => (pp e he).2
      omega
theorem Dd.shaped {n : Nat} {v : V} {d : PyData} (hn : n ≤ 20) (h : Dd K H n v d) : SeqAt.shaped d = true := by
  obtain ⟨h1, h2⟩ := Dd.shape n v d h
  unfold SeqAt.shaped
  exact Bool.and_eq_true_iff.mpr ⟨h1, decide_eq_true (by omega)⟩
theorem Fr.ex0 {F : Addr → Prop} {n : Nat} {v : V} {d : PyData} (e : Ex [] H H') (h : Fr F H n v d) : Fr F H' n v d := Fr.mono (fun _ h => h) (fun _ _ _ h => e.get0 h) _ _ _ h
theorem TupsAt.take {ls : List (List V)} {i : Nat} {xs : List V} (h2 : Tups K H xs ls) (h : SqT K H q (xs.take i)) : TupsAt K H q (ls.take i) := by
  refine ⟨_, h, by simp [h2.1], fun j y l h3 h4 => ?_⟩
  by_cases hj : j < i
  · rw [List.getElem?_take_of_lt hj] at h3 h4
    exact h2.2 j y l h3 h4
  · rw [List.getElem?_take_eq_none (by omega)] at h3
    cases h3
end
end WB
namespace WB
open PySem PySem.Spec PyProof.Rows L2 LamX
inductive F2 {α β : Type} (P : α → β → Prop) : List α → List β → Prop
  | nil : F2 P [] []
  | cons {x : α} {y : β} {xs : List α} {ys : List β} (h : P x y) (r : F2 P xs ys) : F2 P (x :: xs) (y :: ys)
def ExN (m : List Addr) (H H' : Hp) : Prop := ∀ b o, b ∉ m → H b = some o → (∀ ps, o ≠ .tbl ps) → H' b = some o
section
variable {K : PySem.W.Frag} {H H' H1 H2 : Hp} {Q : VK} {E : XK} {a q x : Addr} {m : List Addr} {M : LM} {T : List (Addr × Str)}
theorem ExN.refl : ExN m H H := fun _ _ _ h _ => h
theorem ExN.trans (e : ExN m H H1) (e2 : ExN m H1 H2) : ExN m H H2 := fun b o n h z => e2 b o n (e b o n h z) z
theorem ExN.of (e : Ex m H H') : ExN m H H' := fun b o n h _ => e b o n h
theorem ExN.of0 (e : Ex [] H H') : ExN m H H' := fun b o _ h _ => e b o (by simp) h
theorem ExN.ofT (e : ExtN H H') : ExN m H H' := fun b o _ h z => e b o h z
theorem sqL_exN {xs : List V} (e : ExN m H H') (n : a ∉ m) (h : SqL K H a xs) : SqL K H' a xs := by
  rcases h with (h | ⟨o, h⟩) | h
  · exact .inl (.inl (e _ _ n h fun _ z => by cases z))
  · exact .inl (.inr ⟨o, e _ _ n h fun _ z => by cases z⟩)
  · exact .inr h
theorem Tabs.ex0 (e : Ex [] H H') (h : Tabs T H) : Tabs T H' := h.ext fun b o hb => e b o (by simp) hb
theorem Tabs.exP (hp : PoolAt H a) (e : Ex [a] H H') (h : Tabs T H) : Tabs T H' := fun p hp' => by
  obtain ⟨ps, h1, h2, h3⟩ := h p hp'
  obtain ⟨x, y, z, hp⟩ := hp
  refine ⟨ps, e _ _ (fun w => ?_) h1, h2, fun pos cv hc => ?_⟩
  · rw [List.mem_singleton.mp w, hp] at h1
    cases h1
  · obtain ⟨c, e1, e2⟩ := h3 pos cv hc
    refine ⟨c, e1, e _ _ (fun w => ?_) e2⟩
    rw [List.mem_singleton.mp w, hp] at e2
    unfold CodeO at e2
    cases e2
structure ValD (K : PySem.W.Frag) (m : List Addr) (H : Hp) (v : V) (d : PyData) : Prop where
  dx : ∀ H', ExN m H H' → Dx K H' 5 v d
  str : (∃ l, v = vS l ∧ l.length ≤ 10000 ∧ plain l) ∨ ∃ n, n ≠ "str" ∧ ∀ H', ExN m H H' → Kd K H' v n
  int : (∃ i : Int, v = .int i ∧ i.natAbs ≤ 10 ^ 38) ∨ ∃ n, n ≠ "int" ∧ ∀ H', ExN m H H' → Kd K H' v n
theorem ValD.ex {v : V} {d : PyData} (e : ExN m H H') (h : ValD K m H v d) : ValD K m H' v d :=
  ⟨fun H2 e2 => h.dx H2 (e.trans e2), h.str.imp (fun z => z) fun ⟨n, h1, h2⟩ => ⟨n, h1, fun H2 e2 => h2 H2 (e.trans e2)⟩, h.int.imp (fun z => z) fun ⟨n, h1, h2⟩ => ⟨n, h1, fun H2 e2 => h2 H2 (e.trans e2)⟩⟩
theorem ValD.int_ (i : Int) (h : i.natAbs ≤ 10 ^ 38) : ValD K m H (.int i) (.int i) :=
  ⟨fun _ _ => .inl (.inr (.inr (.inl ⟨i, rfl, rfl⟩))), .inr ⟨"int", by decide, fun _ _ => .int⟩, .inl ⟨i, rfl, h⟩⟩
theorem ValD.str_ (l : List Nat) (hl : l.length ≤ 10000) (h : plain l) : ValD K m H (vS l) (dS l) :=
  ⟨fun _ _ => .inl (.inr (.inr (.inr ⟨l, h, rfl, rfl⟩))), .inl ⟨l, rfl, hl, h⟩, .inr ⟨"str", by decide, fun _ _ => .str⟩⟩
theorem ValD.of {v : V} {d : PyData} {n : String} (h1 : n ≠ "str") (h2 : n ≠ "int") (h : ∀ H', ExN m H H' → Dx K H' 5 v d ∧ Kd K H' v n) : ValD K m H v d :=
  ⟨fun H' e => (h H' e).1, .inr ⟨n, h1, fun H' e => (h H' e).2⟩, .inr ⟨n, h2, fun H' e => (h H' e).2⟩⟩
theorem dd_pair {n : Nat} {xs : List V} {ds : List PyData} (P : V → PyData → Prop) (h : F2 P xs ds) : ds.length = xs.length ∧ ∀ (i : Nat) x e, xs[i]? = some x → ds[i]? = some e → P x e := by
  induction h with
  | nil => exact ⟨rfl, fun i x e h => by cases i <;> cases h⟩
  | cons h1 h2 ih =>
    refine ⟨by simp [ih.1], fun i x e hx he => ?_⟩
    cases i with
    | zero => cases hx; cases he; exact h1
    | succ i => exact ih.2 i x e hx he
theorem dx_scal {n : Nat} {v : V} {d : PyData} (h : Scal v d) : Dx K H n v d := by
  cases n with
  | zero => exact h
  | succ n => exact .inl h
theorem dd_scl {n : Nat} {v : V} {d : PyData} (h : Scal v d) : Dd K H n v d := by
  cases n with
  | zero => exact h
  | succ n => exact .inl h
theorem dx_tup {n : Nat} {xs : List V} {ds : List PyData} (h : SqT K H a xs) (hl : xs.length ≤ 1000) (hd : F2 (Dx K H n) xs ds) : Dx K H (n + 1) (.ref a) (.tuple ds) := by
  obtain ⟨h1, h2⟩ := dd_pair (n := n) _ hd
  exact .inr (.inl ⟨a, xs, ds, rfl, rfl, h, hl, h1, h2⟩)
theorem dx_lst {n : Nat} {xs : List V} {ds : List PyData} (h : H a = some (.lst xs)) (hl : xs.length ≤ 1000) (hd : F2 (Dx K H n) xs ds) : Dx K H (n + 1) (.ref a) (.list ds) := by
  obtain ⟨h1, h2⟩ := dd_pair (n := n) _ hd
  exact .inr (.inr (.inl ⟨a, xs, ds, rfl, rfl, h, hl, h1, h2⟩))
theorem scS {l : List Nat} (h : plain l) : Scal (vS l) (dS l) := .inr (.inr (.inr ⟨l, h, rfl, rfl⟩))
theorem scI {i : Int} : Scal (.int i) (.int i) := .inr (.inr (.inl ⟨i, rfl, rfl⟩))
theorem OddAt.val {v : V} (h : OddAt m H v) : ∃ d, ValD K m H v d := by
  cases h with
  | non => exact ⟨.none, .of (n := "NoneType") (by decide) (by decide) fun _ _ => ⟨dx_scal (.inl ⟨rfl, rfl⟩), .non⟩⟩
  | bl b => exact ⟨.bool b, .of (n := "bool") (by decide) (by decide) fun _ _ => ⟨dx_scal (.inr (.inl ⟨b, rfl, rfl⟩)), .bl⟩⟩
  | int i h => exact ⟨_, .int_ i h⟩
  | str l h => exact ⟨_, .str_ l (by have := oddS_len h; omega) (oddS_plain h)⟩
  | l0 n h => exact ⟨.list [], .of (n := "list") (by decide) (by decide) fun H' e => have h' := e _ _ n h (fun _ z => by cases z); ⟨dx_lst h' (by simp) .nil, .lst h'⟩⟩
  | l1 n h => exact ⟨.list [dS [97]], .of (n := "list") (by decide) (by decide) fun H' e => have h' := e _ _ n h (fun _ z => by cases z); ⟨dx_lst h' (by simp) (.cons (dx_scal (scS plain_a)) .nil), .lst h'⟩⟩
  | d0 n h => exact ⟨.dict [], .of (n := "dict") (by decide) (by decide) fun H' e => have h' := e _ _ n h (fun _ z => by cases z); ⟨.inr (.inr (.inr (.inl ⟨_, rfl, rfl, h'⟩))), .dict h'⟩⟩
  | d1 n h => exact ⟨.dict [(dS [97], .int 1)], .of (n := "dict") (by decide) (by decide) fun H' e => have h' := e _ _ n h (fun _ z => by cases z); ⟨.inr (.inr (.inr (.inr ⟨_, _, _, rfl, rfl, h', dd_scl scI⟩))), .dict h'⟩⟩
  | t0 n h => exact ⟨.tuple [], .of (n := "tuple") (by decide) (by decide) fun H' e => have h' := SqT.of (K := K) (e _ _ n h (fun _ z => by cases z)); ⟨dx_tup h' (by simp) .nil, .tup h'⟩⟩
  | t1 n h => exact ⟨.tuple [dS [97]], .of (n := "tuple") (by decide) (by decide) fun H' e => have h' := SqT.of (K := K) (e _ _ n h (fun _ z => by cases z)); ⟨dx_tup h' (by simp) (.cons (dx_scal (scS plain_a)) .nil), .tup h'⟩⟩
  | t2 n h => exact ⟨.tuple [.int 0, .int 1], .of (n := "tuple") (by decide) (by decide) fun H' e => have h' := SqT.of (K := K) (e _ _ n h (fun _ z => by cases z)); ⟨dx_tup h' (by simp) (.cons (dx_scal scI) (.cons (dx_scal scI) .nil)), .tup h'⟩⟩
  | @t3 a b c d e n nb nc nd ne h hb hc hd he =>
    refine ⟨.tuple [.list [], .dict [(dS [97], .tuple [.int 1, .list []])]], .of (n := "tuple") (by decide) (by decide) fun H' ex => ?_⟩
    have h' := SqT.of (K := K) (ex _ _ n h (fun _ z => by cases z))
    have hb' := ex _ _ nb hb (fun _ z => by cases z)
    have hc' := ex _ _ nc hc (fun _ z => by cases z)
    have hd' := ex _ _ nd hd (fun _ z => by cases z)
    have he' := ex _ _ ne he (fun _ z => by cases z)
    refine ⟨dx_tup h' (by simp) (.cons (dx_lst (n := 3) hb' (by simp) .nil) (.cons (.inr (.inr (.inr (.inr ⟨c, _, _, rfl, rfl, hc', ?_⟩)))) .nil)), .tup h'⟩
    refine .inr (.inl ⟨d, _, _, rfl, rfl, SqT.of hd', by simp, rfl, fun i x y hx hy => ?_⟩)
    match i, hx, hy with
    | 0, hx, hy => cases hx; cases hy; exact dd_scl scI
    | 1, hx, hy => cases hx; cases hy; exact .inr (.inr ⟨e, [], [], rfl, rfl, he', by simp, rfl, fun i x y hx => by cases i <;> cases hx⟩)
end
end WB
namespace WB
open PySem PySem.Spec PyProof.Rows L2 LamX
section
variable {K : PySem.W.Frag} {H H' H1 H2 : Hp} {Q : VK} {E : XK} {T : List (Addr × Str)}
theorem Tabs.updL {D : Addr} {o : HO} (hD : H D = none ∨ ∃ l, H D = some (.lst l)) (h : Tabs T H) : Tabs T (upd H D o) := fun p hp => by
  obtain ⟨ps, h1, h2, h3⟩ := h p hp
  have ne : ∀ b u, H b = some u → (∀ l, u ≠ .lst l) → b ≠ D := fun b u hb hu z => by
    rw [z] at hb
    rcases hD with hD | ⟨l, hD⟩
    · rw [hD] at hb; cases hb
    · rw [hD] at hb
      exact hu l (Option.some.inj hb).symm
  refine ⟨ps, by rw [upd_ne (ne _ _ h1 fun _ z => by cases z)]; exact h1, h2, fun pos cv hc => ?_⟩
  obtain ⟨c, e1, e2⟩ := h3 pos cv hc
  exact ⟨c, e1, by rw [upd_ne (ne _ _ e2 fun _ z => by unfold CodeO at z; cases z)]; exact e2⟩
theorem ExN.drop {p : Addr} {H3 : Hp} (hp : H p = none) (e1 : Ex [] H H1) (e2 : ExN [p] H1 H3) : ExN [] H H3 := fun b o n h z => e2 b o (fun w => by rw [List.mem_singleton.mp w, hp] at h; cases h) (e1 b o n h) z
theorem lc_tabs {n j : Nat} {lo : Int} {te : TE} {σ : St} (hn : n ≤ 1000) (hT : Tabs T H)
    (h : ∀ (i : Nat) (H1 : Hp) (C : VK), i < n → ExN [] H H1 → Tabs T H1 → (∀ H2, ExN [] H1 H2 → Tabs T H2 → C (.bl true) H2) → te ((wipe σ [j]).set j (some (.int (lo + i)))) H1 C)
    (k : ∀ D H', H' D = some (.lst ((List.range n).map fun _ => .bl true)) → Q (.ref D) H') : LcW (Itr lo n) (gName j) tYes te [j] σ H Q := by
  intro D hD
  have xU : ∀ {H1 : Hp} {o : HO}, ExN [] H H1 → ExN [] H (upd H1 D o) := fun {H1 o} e b u nb hb z => by
    rw [upd_ne (ne_of_none hb hD)]
    exact e b u nb hb z
  refine lc_it walk_range (fun i H1 => ExN [] H H1 ∧ Tabs T H1 ∧ H1 D = some (.lst ((List.range i).map fun _ => .bl true))) ⟨xU ExN.refl, Tabs.updL (.inl hD) hT, upd_same⟩ (fun _ _ _ _ => trivial) ?_ ?_
  · rintro i x H1 H2 hi ⟨e, hT1, hd⟩ ⟨rfl, rfl⟩
    refine ⟨wipe1 _ _ _, ?_⟩
    refine s_yes ?_
    refine s_T rfl ?_
    refine h i H2 _ hi e hT1 fun H5 e5 hT5 => ?_
    have hd5 : H5 D = some (.lst ((List.range i).map fun _ => .bl true)) := e5 D _ (by simp) hd fun _ z => by cases z
    refine ⟨_, hd5, by simp; exact Nat.lt_of_lt_of_le hi (Nat.le_trans hn (by decide)), xU (e.trans e5), Tabs.updL (.inr ⟨_, hd5⟩) hT5, ?_⟩
    rw [upd_same, List.range_succ, List.map_append]
    rfl
  · rintro H1 ⟨e, hT1, hd⟩
    exact k D H1 hd
end
end WB
namespace GQ
open PySem PySem.SeqAt
open AutoSeq1 (wpAny_loadPart')
open MeetsSeq MeetsSeq2 MeetsSeq3 SeqRoads2
section
variable {prog : Program} {w : World} {A : Around} {R : Result → Shared → Prop}
theorem ne_loopG (l b : Addr) (N : Nat) (I : Nat → Shared → Prop) (hl : ListI prog w A (fun e s' => R (.error e) s') l b N I)
    (fin : ∀ s, I N s → R (.ok (.ret (.bool false))) s) (k : Nat) :
    ∀ i : Nat, N - i = k → i ≤ N → ∀ s, I i s →
      wpAny (model prog w) A.in1 (Builtin.«list.__eq__.loop» ⟨[.ref l, .ref b, rawInt i, rawInt 3], []⟩) (FinOf prog w A R) (fun e s' => R (.error e) s') s := by
  induction k with
  | zero =>
    intro i hk hi s h
    obtain ⟨items, items2, n, n2, hl1, hb1, hs1, hs2, _⟩ := hl _ _ h
    have hi' : i = N := by omega
    have hR : R (.ok (.ret (.bool false))) s := fin s (hi' ▸ h)
    obtain ⟨hp, g, d, tk, os⟩ := s
    wp_walk using wpAny_loadPart' hl1, wpAny_loadPart' hb1
    have hi1 : items[((i : Nat) : Int).toNat]? = none := by simp; omega
    have hi2 : items2[((i : Nat) : Int).toNat]? = none := by simp; omega
    rw [hi1, hi2]
    wp_walk using wpAny_loadPart' hl1, wpAny_loadPart' hb1
    show R (.ok (.ret (.bool (items.size != items2.size)))) _
    rw [hs1, hs2]
    simpa using hR
  | succ k ih =>
    intro i hk hi s h
    obtain ⟨items, items2, n, n2, hl1, hb1, hs1, hs2, turn⟩ := hl _ _ h
    have hlt : i < items.size := by omega
    have hlt2 : i < items2.size := by omega
    have ht := turn hlt hlt2
    obtain ⟨hp, g, d, tk, os⟩ := s
    wp_walk using wpAny_loadPart' hl1, wpAny_loadPart' hb1
    have hi1 : items[((i : Nat) : Int).toNat]? = some items[i] := by simp [hlt]
    have hi2 : items2[((i : Nat) : Int).toNat]? = some items2[i] := by simp [hlt2]
    have hc : ((i : Int) + 1) = ((i + 1 : Nat) : Int) := by omega
    rw [hi1, hi2]
    refine wpAny_bind (wpAny_mono ht (fun r s2 h2 => ?_) fun _ _ x => x)
    obtain ⟨hr, h2⟩ := h2
    subst hr
    have hrec := ih (i + 1) (by omega) (by omega) s2 h2
    obtain ⟨hp2, g2, d2, tk2, os2⟩ := s2
    wp_walk
    rw [hc]
    exact ⟨plainId_quiet plain_eq_loop _, codeAny_builtin entry_eq_loop (by
      rw [Around.under_plainId plain_eq_loop _]
      exact hrec)⟩
theorem list_neG (l b : Addr) (N : Nat) (I : Nat → Shared → Prop) (hl : ListI prog w A (fun e s' => R (.error e) s') l b N I)
    (fin : ∀ s, I N s → R (.ok (.ret (.bool false))) s) {s : Shared} (h : I 0 s) :
    wpAny (model prog w) A.in1 (Builtin.«list.__ne__» ⟨[.ref l, .ref b], []⟩) (FinOf prog w A R) (fun e s' => R (.error e) s') s := by
  obtain ⟨items, items2, n, n2, hl1, hb1, hs1, hs2, _⟩ := hl _ _ h
  have hrec := ne_loopG (A := A) (R := R) l b N I hl fin _ 0 rfl (Nat.zero_le _) s h
  obtain ⟨hp, g, d, tk, os⟩ := s
  have f3 := AutoSeq1.sub_list_list
  have hne : ¬ (items.size != items2.size) = true := by simp [hs1, hs2]
  wp_walk using wpAny_loadPart' hl1, wpAny_loadPart' hb1
  exact ⟨plainId_quiet plain_eq_loop _, codeAny_builtin entry_eq_loop (by
    rw [Around.under_plainId plain_eq_loop _]
    exact hrec)⟩
end
section
variable {prog : Program} {w : World} {A : Around} {E : Value → Shared → Prop} {s : Shared}
theorem rn_listG {l b : Addr} {N : Nat} {Q : Value → Shared → Prop} (hu : A.units < cLine) (I : Nat → Shared → Prop) (hl : ListI prog w A E l b N I)
    (fin : ∀ s, I N s → Q (.bool false) s) (h : I 0 s) : wpAny (model prog w) A (richCompare .NotEq (.ref l) (.ref b)) Q E s := by
  obtain ⟨items, items2, n, n2, hl1, hb1, _, _, _⟩ := hl _ _ h
  refine wpAny_richCompare_same_room (op := .NotEq) ⟨_, hl1, rfl⟩ ⟨_, hb1, rfl⟩ F.slot_list_ne (call_here F.slot_list_ne ⟨_, hl1, rfl⟩ F.entry_list_ne (F.args_list_ne_2 _ _) ?_) hu
  exact list_neG (R := wants (fun v s' => v ≠ .notImplemented ∧ Q v s') E) l b N I hl (fun s' q => ⟨(fun x => nomatch x), fin s' q⟩) h
end
end GQ
namespace WB
open PySem PySem.Spec PyProof.Rows L2
section
variable {X : Cx} {n m : Nat} {D D' : Eqv}
def RnG (X : Cx) (n : Nat) (D : Eqv) : Prop :=
  ∀ (A : Around) (pins : List (Addr × Obj)) (s : Shared) (σ : St) (H : Hp) (x y : V) (u v : Value), Sub X n A → Inv X pins σ H s → RelV x u → RelV y v → D x y H →
    wpAny (model X.prog X.w) A (richCompare .NotEq u v) (fun r s' => r = .bool false ∧ ∃ H', Inv X pins σ H' s' ∧ Ext H H') X.xe s
theorem rnG_list (hD : Mon D) (h : EqG X n D) : RnG X (n + 1) (DList D) := by
  intro A pins s σ H x y u v sb I rx ry d
  obtain ⟨a, b, xs, ys, rfl, rfl, ha, hb, p⟩ := d
  cases rx
  cases ry
  refine GQ.rn_listG (N := xs.length) sb.room.units0 (fun _ s' => L2.LoopI X pins σ H s') (fun i s' q => ?_) (fun s' q => ⟨rfl, q⟩) ⟨H, I, Ext.rfl'⟩
  obtain ⟨H1, I1, e1⟩ := id q
  obtain ⟨z, its, k, r, e⟩ := I1.hok a _ (e1 _ _ ha)
  obtain ⟨z2, its2, k2, r2, e2⟩ := I1.hok b _ (e1 _ _ hb)
  refine ⟨its.toArray, its2.toArray, k, k2, e, e2, by rw [List.size_toArray, ← r.length], by rw [List.size_toArray, ← r2.length, ← p.1], fun h1 h2 => ?_⟩
  exact turnG hD h sb p r r2 i h1 h2 s' q
def DSame : Eqv := fun x y _ => ∃ a : Addr, x = .ref a ∧ y = .ref a
theorem mon_same : Mon DSame := fun _ _ _ _ _ d => d
theorem eqG_same : EqG X n DSame := by
  intro A pins s σ H x y u v sb I rx ry d
  obtain ⟨a, rfl, rfl⟩ := d
  cases rx
  cases ry
  exact SeqAt.EqAt.same (A := A) (s := s) (.ref a) X.prog X.w X.xe _ ⟨rfl, H, I, Ext.rfl'⟩
def rNeG (D : Eqv) : R2 := fun x y H Q => D x y H ∧ ∀ H', Ext H H' → Q (.bl false) H'
theorem op_neG (h : RnG X n D) (hr : Room n X.A) : OpR X (compareOp .NotEq) (rNeG D) := by
  intro pins s σ H x y v u Q I rx ry hq
  obtain ⟨d, q⟩ := hq
  show wpAny (model X.prog X.w) X.A (richCompare .NotEq v u) (EP X pins σ Q) X.xe s
  refine wpAny_mono (h X.A pins s σ H x y v u ⟨hr, rfl⟩ I rx ry d) (fun r s' z => ?_) fun _ _ x => x
  obtain ⟨hr', H', I', e⟩ := z
  subst hr'
  exact ⟨.bl false, H', I', rfl, q H' e⟩
theorem OpR.or {o : Value → Value → Sem Value} {r1 r2 : R2} (h1 : OpR X o r1) (h2 : OpR X o r2) : OpR X o (fun x y H Q => r1 x y H Q ∨ r2 x y H Q) := by
  intro pins s σ H x y v u Q I rx ry hq
  rcases hq with hq | hq
  · exact h1 pins s σ H x y v u Q I rx ry hq
  · exact h2 pins s σ H x y v u Q I rx ry hq
def DSm1 : Eqv := fun x y H => DFlat x y H ∨ DSame x y H
def DSm2 : Eqv := fun x y H => DSm1 x y H ∨ DList DSm1 x y H
theorem mon_sm1 : Mon DSm1 := mon_flat.or mon_same
theorem mon_sm2 : Mon DSm2 := mon_sm1.or (mon_list mon_sm1)
theorem eqG_sm1 : EqG X 0 DSm1 := eqG_flat.or eqG_same
theorem eqG_sm2 : EqG X 1 DSm2 := (eqG_sm1.mono (by omega)).or (eqG_list mon_sm1 eqG_sm1)
def rNeS (K : PySem.W.Frag) : R2 := fun x y H Q => rNeD K x y H Q ∨ rNeG (DList DSm2) x y H Q
theorem op_neS (hu : X.A.units + 64 < cLine) (hr : Room 2 X.A) : OpR X (compareOp .NotEq) (rNeS X.K) := (op_neD hu).or (op_neG (rnG_list mon_sm2 eqG_sm2) hr)
end
end WB
namespace WB
open PySem PySem.Spec PyProof.Rows L2
def DOw1 (C : Addr) (R : Addr → Addr → Hp → Prop) : Eqv := fun x y H => DFlat x y H ∨ DIns C R x y H
def DOw2 (C : Addr) (R : Addr → Addr → Hp → Prop) : Eqv := fun x y H => DOw1 C R x y H ∨ DList (DOw1 C R) x y H
def rNeR (K : PySem.W.Frag) (C : Addr) (R : Addr → Addr → Hp → Prop) : R2 := fun x y H Q => rNeS K x y H Q ∨ rNeG (DList (DOw2 C R)) x y H Q
theorem spEq_of {P : Program} {w : World} {K : PySem.W.Frag} {mg : Str → Option Value} {base : Heap} {CX : CXT} {k : Nat} {f : Addr} {fd : FuncData} {ps : List Str} {sp : Sp} {R : Addr → Addr → Hp → Prop}
    (h : ∀ vs H Q E, spEq R vs H Q E → sp vs H Q E) (F : FnOk P w K mg base CX k f fd ps sp) : FnOk P w K mg base CX k f fd ps (spEq R) := F.imp h
theorem op_neR {X : Cx} {CX : CXT} {C f : Addr} {fd : FuncData} {ps : List Str} {R : Addr → Addr → Hp → Prop} {E : XK} {k : Nat} (hR : ∀ a b H H', Ext H H' → R a b H → R a b H') (hu : X.A.units + 64 < cLine) (hr2 : Room 2 X.A)
    (F : FnOk X.prog X.w X.K X.mg X.base CX k f fd ps (spEq R)) (S : Spec1 X.K C "__eq__" f) (hb : Binds X.K fd ps []) (hx : Passes CX X E)
    (hr : Room (k + 2) X.A) : OpR X (compareOp .NotEq) (rNeR X.K C R) := by
  have m1 : Mon (DOw1 C R) := mon_flat.or (mon_ins hR)
  have m2 : Mon (DOw2 C R) := m1.or (mon_list m1)
  have e1 : EqG X k (DOw1 C R) := (eqG_flat.mono (by omega)).or (eqG_ins F S.at_ S.fn hb hx)
  have e2 : EqG X (k + 1) (DOw2 C R) := (e1.mono (by omega)).or (eqG_list m1 e1)
  exact (op_neS hu hr2).or (op_neG (rnG_list m2 e2) hr)
def RingEq (K : PySem.W.Frag) : Addr → Addr → Hp → Prop := fun a b H => ∃ l, RingAt K H a l ∧ RingAt K H b l
theorem mon_ringEq {K : PySem.W.Frag} : ∀ a b H H', Ext H H' → RingEq K a b H → RingEq K a b H' := fun a b H H' e ⟨l, ⟨dx, h1⟩, ⟨dy, h2⟩⟩ => ⟨l, ⟨dx, e _ _ h1⟩, ⟨dy, e _ _ h2⟩⟩
theorem ringEq_imp {K : PySem.W.Frag} : ∀ vs H Q E, spEq (RingEq K) vs H Q E → sp_Ring_eq K vs H Q E := fun vs H Q E ⟨a, b, h, ⟨l, h1, h2⟩, k⟩ => ⟨a, .ref b, h, l, h1, .inl ⟨b, l, rfl, h2, by
  rw [decide_eq_true rfl]
  exact k H Ext.rfl'⟩⟩
end WB
namespace WB
open PySem PySem.Spec PyProof.Rows L2 LamX
def BadW (K : PySem.W.Frag) (H : Hp) (ab : List Nat) (v : V) : Prop := (∃ l, v = vS l ∧ l.length ≤ 10000 ∧ isWord l ab = false) ∨ ∃ n, n ≠ "str" ∧ Kd K H v n
end WB
namespace WB
open PySem PySem.Spec PyProof.Rows L2 LamX
abbrev Th12 := Sum PyData Addr
def ThAt (K : PySem.W.Frag) (m : List Addr) (H : Hp) (v : V) : Th12 → Prop
  | .inl d => ValD K m H v d
  | .inr a => v = .ref a ∧ a ∉ m ∧ ∃ w, RingAt K H a w
def fc12 : Th12 → Th12
  | .inl d => .inl (faceX 5 d)
  | .inr a => .inr a
def FcAt (H : Hp) (r : Addr) : Th12 → Prop
  | .inl d => Fr (fun _ => True) H 11 (.ref r) d
  | .inr a => H r = some (.lst [vS sPlain, .ref a])
section
variable {K : PySem.W.Frag} {H H' : Hp} {Q : VK} {E : XK} {a p r : Addr} {m : List Addr} {v : V} {s : Th12}
theorem FcAt.ex0 (e : Ex [] H H') (h : FcAt H r s) : FcAt H' r s := by
  cases s with
  | inl d => exact Fr.mono (fun _ h => h) (fun a zs _ ha => e.get0 ha) _ _ _ h
  | inr a => exact e.get0 h
theorem FcAt.exN (e : ExN [] H H') (h : FcAt H r s) : FcAt H' r s := by
  cases s with
  | inl d => exact Fr.mono (fun _ h => h) (fun a zs _ ha => e _ _ (by simp) ha fun _ z => by cases z) _ _ _ h
  | inr a => exact e _ _ (by simp) h fun _ z => by cases z
theorem RingAt.exN {w : List Nat} (e : ExN m H H') (n : a ∉ m) (h : RingAt K H a w) : RingAt K H' a w := by
  obtain ⟨dx, h⟩ := h
  exact ⟨dx, e _ _ n h fun _ z => by cases z⟩
theorem ThAt.ex (e : ExN m H H') (h : ThAt K m H v s) : ThAt K m H' v s := by
  cases s with
  | inl d => exact ValD.ex e h
  | inr a =>
    obtain ⟨h1, n, w, h2⟩ := h
    exact ⟨h1, n, w, h2.exN e n⟩
theorem ThAt.nil (h : ThAt K m H v s) : ThAt K [] H v s := by
  cases s with
  | inl d => exact ⟨fun H' e => h.dx H' fun b o _ => e b o (by simp), h.str.imp (fun z => z) fun ⟨n, h1, h2⟩ => ⟨n, h1, fun H' e => h2 H' fun b o _ => e b o (by simp)⟩, h.int.imp (fun z => z) fun ⟨n, h1, h2⟩ => ⟨n, h1, fun H' e => h2 H' fun b o _ => e b o (by simp)⟩⟩
  | inr a => exact ⟨h.1, by simp, h.2.2⟩
end
def sp_law_faceR (K : PySem.W.Frag) : Nat → Sp
  | 0 => fun _ _ _ _ => False
  | n + 1 => fun vs H Q _ => ∃ v, vs = [v] ∧ ((∃ d, Dx K H n v d ∧ ∀ r H', H r = none → Ex [] H H' → Fr (fun a => H a = none) H' (2 * n + 1) (.ref r) (faceX n d) → Q (.ref r) H') ∨ ∃ a w, v = .ref a ∧ RingAt K H a w ∧ ∀ r H', H r = none → Ex [] H H' → H' r = some (.lst [vS sPlain, .ref a]) → Q (.ref r) H')
theorem faceR_of {K : PySem.W.Frag} {n : Nat} {vs : List V} {H : Hp} {Q : VK} {E : XK} : sp_law_faceX K (n + 1) vs H Q E → sp_law_faceR K (n + 1) vs H Q E := fun ⟨v, e, d, hd, k⟩ => ⟨v, e, .inl ⟨d, hd, k⟩⟩
theorem u_faceR {K : PySem.W.Frag} {H : Hp} {Q : VK} {E : XK} {m : List Addr} {v : V} {s : Th12} (h : ThAt K m H v s) (k : ∀ r H', H r = none → Ex [] H H' → FcAt H' r (fc12 s) → Q (.ref r) H') : sp_law_faceR K 6 ([v] ++ []) H Q E := by
  cases s with
  | inl d => exact faceR_of (u_faceX (h.dx H ExN.refl) fun r H' n e f => k r H' n e (Fr.mono (fun _ _ => True.intro) (fun a zs _ ha => ha) _ _ _ f))
  | inr a =>
    obtain ⟨rfl, _, w, h2⟩ := h
    exact ⟨_, rfl, .inr ⟨a, w, rfl, h2, fun r H' n e hr => k r H' n e hr⟩⟩
end WB
namespace WB
open PySem PySem.Spec PyProof.Rows L2 LamX
def s05Word : List Nat := [119, 111, 114, 100]
def s05Place : List Nat := [112, 108, 97, 99, 101]
def s05Number : List Nat := [110, 117, 109, 98, 101, 114]
def s05Ring : List Nat := [114, 105, 110, 103]
theorem plain_05 : plain s05Word ∧ plain s05Place ∧ plain s05Number ∧ plain s05Ring ∧ plain sNothing := by
  refine ⟨?_, ?_, ?_, ?_, ?_⟩ <;> (intro c hc; revert c; decide)
structure Own05 (K : PySem.W.Frag) : Prop where
  rk : RingK K
  kt : ∀ n ∈ (["tuple", "list", "dict", "bool"] : List String), PySem.W.kitOne K (.ref (He.ga K "Ring")) (.type n) = some false
def NoInt (K : PySem.W.Frag) (H : Hp) (v : V) : Prop := ∃ n, n ≠ "int" ∧ Kd K H v n
def BadSpot (K : PySem.W.Frag) (H : Hp) (v : V) : Prop := ∃ n, Kd K H v n ∧ n ≠ "int" ∧ (n ≠ "tuple" ∨ ∃ p xs, v = .ref p ∧ SqT K H p xs ∧ (xs.length ≠ 2 ∨ ∃ u1 u2, xs = [u1, u2] ∧ (NoInt K H u1 ∨ (∃ i : Int, u1 = .int i) ∧ (NoInt K H u2 ∨ ∃ j : Int, u2 = .int j ∧ ¬ (1 ≤ j ∧ j ≤ 600)))))
def SpotOK (K : PySem.W.Frag) (H : Hp) (v : V) : Prop := (∃ i : Int, v = .int i) ∨ ∃ p i j, v = .ref p ∧ SqT K H p [.int i, .int j] ∧ 1 ≤ j ∧ j ≤ 600
def spr_Ring_init (K : PySem.W.Frag) : Sp := fun vs H Q E => ∃ (x : Addr) (v : V), vs = [.ref x, v] ∧ BadW K H LET v ∧ Rsd K H E "InvalidWord" "given" v
def spx_Ring_init (K : PySem.W.Frag) : Sp := fun vs H Q E => sp_Ring_init K vs H Q E ∨ spr_Ring_init K vs H Q E
def spr_Ring_turned (K : PySem.W.Frag) : Sp := fun vs H Q E => ∃ (a : Addr) (v : V), vs = [.ref a, v] ∧ NoInt K H v ∧ Rsd K H E "InvalidPlace" "given" v
def spx_Ring_turned (K : PySem.W.Frag) : Sp := fun vs H Q E => sp_Ring_turned K vs H Q E ∨ spr_Ring_turned K vs H Q E
def spr_Ring_getitem (K : PySem.W.Frag) : Sp := fun vs H Q E => ∃ (a : Addr) (v : V), vs = [.ref a, v] ∧ BadSpot K H v ∧ Rsd K H E "InvalidPlace" "given" v
def spx_Ring_getitem (K : PySem.W.Frag) : Sp := fun vs H Q E => sp_Ring_getitem K vs H Q E ∨ spr_Ring_getitem K vs H Q E
def spr_Ring_mul (K : PySem.W.Frag) : Sp := fun vs H Q E => ∃ (a : Addr) (v : V), vs = [.ref a, v] ∧ ∃ l, RingAt K H a l ∧ l.length ≤ 600 ∧ ((((∃ i : Int, v = .int i ∧ i < 1) ∨ NoInt K H v) ∧ Rsd K H E "InvalidNumber" "given" v) ∨ ∃ i : Int, v = .int i ∧ 1 ≤ i ∧ 600 < (l.length : Int) * i ∧ Rsd K H E "InvalidWord" "given" v)
def spx_Ring_mul (K : PySem.W.Frag) : Sp := fun vs H Q E => sp_Ring_mul K vs H Q E ∨ spr_Ring_mul K vs H Q E
def spr_Ring_add (K : PySem.W.Frag) : Sp := fun vs H Q E => ∃ (a : Addr) (v : V), vs = [.ref a, v] ∧ ∃ l, RingAt K H a l ∧ l.length ≤ 600 ∧ (((∃ n, Kd K H v n) ∧ Rsd K H E "NotARing" "given" v) ∨ ∃ b m, v = .ref b ∧ RingAt K H b m ∧ m.length ≤ 600 ∧ 600 < l.length + m.length ∧ Rsd K H E "InvalidWord" "given" v)
def spx_Ring_add (K : PySem.W.Frag) : Sp := fun vs H Q E => sp_Ring_add K vs H Q E ∨ spr_Ring_add K vs H Q E
def Told05 (H : Hp) (p : Addr) (w : List Nat) (s : Th12) : Prop := ∃ r, H p = some (.lst [vS w, .ref r]) ∧ FcAt H r (fc12 s)
theorem Told05.ex0 {H H' : Hp} {p : Addr} {w : List Nat} {s : Th12} (e : Ex [] H H') (h : Told05 H p w s) : Told05 H' p w s := by
  obtain ⟨r, h1, h2⟩ := h
  exact ⟨r, e.get0 h1, h2.ex0 e⟩
def heards05 : List (Str × List Nat) := [("InvalidWord", s05Word), ("InvalidPlace", s05Place), ("InvalidNumber", s05Number), ("NotARing", s05Ring)]
def Heard05 (K : PySem.W.Frag) (Q : VK) : XK := fun cls dd H => ∃ C w, (C, w) ∈ heards05 ∧ cls = .ref (He.ga K C) ∧ ∃ d v s, dd = some d ∧ H d = some (.xd [("given", v)]) ∧ ThAt K [] H v s ∧ ∀ p H', Ex [] H H' → Told05 H' p w s → Q (.ref p) H'
def TT_law_heard05 (K : PySem.W.Frag) : (XK → Hp → VK → Prop) → Hp → VK → Prop := fun tl H Q => tl (Heard05 K Q) H fun _ H' => ∀ p H2, Ex [] H' H2 → Told05 H2 p sNothing (.inl .none) → Q (.ref p) H2
def tabs05 (K : PySem.W.Frag) : List (Addr × Str) := tabsOf K ["_law_right", "_law_at_the_limit"]
def sp_law_wholeK (K : PySem.W.Frag) : Sp := fun vs H Q _ => ∃ (v : V) (n : String), vs = [v] ∧ Kd K H v n ∧ Q (.bl (decide (n = "int"))) H
theorem u_wholeI {K : PySem.W.Frag} {H : Hp} {Q : VK} {E : XK} {i : Int} (k : Q (.bl true) H) : sp_law_wholeK K ([.int i] ++ []) H Q E := ⟨.int i, "int", rfl, Kd.int, k⟩
theorem u_wholeN {K : PySem.W.Frag} {H : Hp} {Q : VK} {E : XK} {v : V} (h : NoInt K H v) (k : Q (.bl false) H) : sp_law_wholeK K ([v] ++ []) H Q E := by
  obtain ⟨n, hn, hk⟩ := h
  exact ⟨v, n, rfl, hk, by rw [decide_eq_false hn]; exact k⟩
def due05 (w : List Nat) (s : Th12) : Th12 := if w = sNothing then .inl .none else s
def sp_law_due05 (K : PySem.W.Frag) : Sp := fun vs H Q _ => ∃ (w : List Nat) (v : V), vs = [vS w, v] ∧ ∃ (m : List Addr) (s : Th12), ThAt K m H v s ∧ ∀ p H', H p = none → Ex [] H H' → Told05 H' p w (due05 w s) → Q (.ref p) H'
def sp_law_spoilt05 (K : PySem.W.Frag) : Sp := fun vs H Q _ => ∃ (a : Addr) (l : List Nat), vs = [.ref a, vS l] ∧ isWord l LET = true ∧ PoolAt H a ∧ ∀ (w : List Nat) (H' : Hp), w.length ≤ 10000 → plain w → Ex [a] H H' → PoolAt H' a → Q (vS w) H'
def ElI (K : PySem.W.Frag) (m : List Addr) (H : Hp) (u : V) : Prop := (∃ i : Int, u = .int i) ∨ ∃ n, n ≠ "int" ∧ ∀ H', ExN m H H' → Kd K H' u n
inductive SpotAt (K : PySem.W.Frag) (m : List Addr) (H : Hp) : V → Prop
  | int (i : Int) : SpotAt K m H (.int i)
  | pair (p : Addr) (u1 u2 : V) : (∀ H', ExN m H H' → SqT K H' p [u1, u2]) → ElI K m H u1 → ElI K m H u2 → SpotAt K m H (.ref p)
  | no (v : V) : (∀ H', ExN m H H' → ∃ n, Kd K H' v n ∧ n ≠ "int" ∧ (n ≠ "tuple" ∨ ∃ p xs, v = .ref p ∧ SqT K H' p xs ∧ xs.length ≠ 2)) → SpotAt K m H v
theorem SpotAt.ex {K : PySem.W.Frag} {m : List Addr} {H H' : Hp} {v : V} (e : ExN m H H') (h : SpotAt K m H v) : SpotAt K m H' v := by
  have el : ∀ {u : V}, ElI K m H u → ElI K m H' u := fun h => h.imp (fun z => z) fun ⟨n, h1, h2⟩ => ⟨n, h1, fun H2 e2 => h2 H2 (e.trans e2)⟩
  cases h with
  | int i => exact .int i
  | pair p u1 u2 h h1 h2 => exact .pair p u1 u2 (fun H2 e2 => h H2 (e.trans e2)) (el h1) (el h2)
  | no v h => exact .no v fun H2 e2 => h H2 (e.trans e2)
def sp_law_spot05 (K : PySem.W.Frag) : Sp := fun vs H Q _ => ∃ a : Addr, vs = [.ref a] ∧ PoolAt H a ∧ ∀ (v : V) (d : PyData) (H' : Hp), Ex [a] H H' → PoolAt H' a → SpotAt K [a] H' v → ValD K [a] H' v d → Q v H'
def sp_law_spot_due (K : PySem.W.Frag) : Sp := fun vs H Q _ => ∃ v : V, vs = [v] ∧ ((SpotOK K H v ∧ Q (vS sNothing) H) ∨ (BadSpot K H v ∧ Q (vS s05Place) H))
def sp_law_times_due (K : PySem.W.Frag) : Sp := fun vs H Q _ => ∃ (v : V) (n : Int), vs = [v, .int n] ∧ ((((∃ i : Int, v = .int i ∧ i < 1) ∨ NoInt K H v) ∧ Q (vS s05Number) H) ∨ ∃ i : Int, v = .int i ∧ 1 ≤ i ∧ 0 ≤ n ∧ n ≤ 600 ∧ Q (vS (if n * i ≤ 600 then sNothing else s05Word)) H)
def sp_law_right05 (K : PySem.W.Frag) : Sp := fun vs H Q _ => ∃ a : Addr, vs = [.ref a] ∧ PoolAt H a ∧ Tabs (tabs05 K) H ∧ ∀ H', ExN [a] H H' → Tabs (tabs05 K) H' → Q (.bl true) H'
def sp_law_at_the_limit (K : PySem.W.Frag) : Sp := fun vs H Q _ => vs = [] ∧ Tabs (tabs05 K) H ∧ ∀ H', ExN [] H H' → Tabs (tabs05 K) H' → Q (.bl true) H'
def sp_law05 (K : PySem.W.Frag) : Sp := fun vs H Q _ => ∃ (a : Addr) (ns : List Int), vs = [.ref a] ∧ SqL K H a (ns.map V.int) ∧ ns.length ≤ 63 ∧ Tabs (tabs05 K) H ∧ ∀ H', Q (.bl true) H'
section
variable {K : PySem.W.Frag} {H : Hp} {Q : VK} {E : XK} {a p1 p2 r1 r2 : Addr} {v : V} {w : List Nat} {m : List Addr} {s : Th12}
theorem u_due05 (h : ThAt K m H v s) (k : ∀ p H', H p = none → Ex [] H H' → Told05 H' p w (due05 w s) → Q (.ref p) H') : sp_law_due05 K ([vS w, v] ++ []) H Q E := ⟨w, v, rfl, m, s, h, k⟩
theorem u_spoilt05 {l : List Nat} (hl : isWord l LET = true) (hp : PoolAt H a) (k : ∀ (w : List Nat) (H' : Hp), w.length ≤ 10000 → plain w → Ex [a] H H' → PoolAt H' a → Q (vS w) H') : sp_law_spoilt05 K ([.ref a, vS l] ++ []) H Q E := ⟨a, l, rfl, hl, hp, k⟩
theorem u_spot05 (hp : PoolAt H a) (k : ∀ (v : V) (d : PyData) (H' : Hp), Ex [a] H H' → PoolAt H' a → SpotAt K [a] H' v → ValD K [a] H' v d → Q v H') : sp_law_spot05 K ([.ref a] ++ []) H Q E := ⟨a, rfl, hp, k⟩
def Body05 (K : PySem.W.Frag) (body : XK → TE) (σ : L2.St) (P : Addr → Hp → Prop) (H1 : Hp) : Prop := ∀ (E : XK) (R : VK), ((∀ (p : Addr) (H3 : Hp), Ex [] H1 H3 → Told05 H3 p sNothing (.inl .none) → P p H3) → ∀ v H2, Ex [] H1 H2 → R v H2) → (∀ C w s v H2, (C, w) ∈ heards05 → Ex [] H1 H2 → ThAt K [] H2 v s → (∀ p H3, Ex [] H2 H3 → Told05 H3 p w s → P p H3) → Rsd K H2 E C "given" v) → body E σ H1 R
theorem s_heard05 {body : XK → TE} {σ : L2.St} {P : Addr → Hp → Prop} (hT : Tabs (tabs05 K) H) (hb : ∀ H1, ExtN H H1 → Body05 K body σ P H1) (k : ∀ p H1 H2, ExtN H H1 → Ex [] H1 H2 → Tabs (tabs05 K) H2 → P p H2 → Q (.ref p) H2) : tLam (tabs05 K) (TT_law_heard05 K) body σ H Q := by
  refine s_lam hT fun H1 e1 t1 => ?_
  refine hb H1 e1 (Heard05 K Q) _ (fun hP v H2 e2 p H3 e3 hp => ?_) (fun C w s v H2 hm e2 hv hP d H3 hd e3 hx => ⟨C, w, hm, rfl, d, v, s, rfl, hx, hv.ex (ExN.of0 e3), fun p H4 e4 hp => ?_⟩)
  · exact k p H1 H3 e1 (e2.trans e3) (Tabs.ex0 (e2.trans e3) t1) (hP p H3 (e2.trans e3) hp)
  · have e14 := e2.trans (e3.trans e4)
    exact k p H1 H4 e1 e14 (Tabs.ex0 e14 t1) (hP p H4 (e3.trans e4) hp)
theorem s_same {body : XK → TE} {due : TE} {σ : L2.St} {r : R2} {D : Ends} (P T2 : Addr → Hp → Prop) (hP : ∀ p H H', Ex [] H H' → P p H → P p H') (hT : Tabs (tabs05 K) H)
    (hne : ∀ p1 p2 G (Q' : VK), P p1 G → T2 p2 G → (∀ G', Ex [] G G' → Q' (.bl false) G') → r (.ref p1) (.ref p2) G Q') (hb : ∀ H1, ExN [] H H1 → Body05 K body σ P H1)
    (hd : ∀ (H1 : Hp) (Q' : VK), ExN [] H H1 → (∀ p2 H2, Ex [] H1 H2 → T2 p2 H2 → Q' (.ref p2) H2) → due σ H1 Q')
    (k : ∀ H3, ExN [] H H3 → Tabs (tabs05 K) H3 → D.nx σ H3) : tIfS (tTest (tOp r (tLam (tabs05 K) (TT_law_heard05 K) body) due)) (tRet (tC (.bl false))) tNext D σ H := by
  obtain ⟨n, rt, b, c⟩ := D
  refine s_ifS (s_test (s_op (s_heard05 hT (fun H1 e1 => hb H1 (ExN.ofT e1)) fun p1 H1 H2 e1 e2 t2 hp => ?_)))
  have x2 : ExN [] H H2 := (ExN.ofT e1).trans (ExN.of0 e2)
  refine hd H2 _ x2 fun p2 H3 e3 h2 => ?_
  refine hne p1 p2 H3 _ (hP _ _ _ e3 hp) h2 fun G eG => s_blQ (s_F rfl (s_next ?_))
  exact k G (x2.trans (ExN.of0 (e3.trans eG))) (Tabs.ex0 (e3.trans eG) t2)
theorem fr_told05 {w : List Nat} {d : PyData} {p r : Addr} (hw : plain w) (h : H p = some (.lst [vS w, .ref r])) (hr : Fr (fun _ => True) H 11 (.ref r) d) : Fr (fun _ => True) H 12 (.ref p) (.list [dS w, d]) := by
  refine .inr ⟨p, _, _, rfl, rfl, True.intro, h, rfl, fun i x e h1 h2 => ?_⟩
  match i, h1, h2 with
  | 0, h1, h2 => cases h1; cases h2; exact .inl (scS hw)
  | 1, h1, h2 => cases h1; cases h2; exact hr
theorem flat_vS {w : List Nat} : DFlat (vS w) (vS w) H := ⟨rfl, rfl, by
  have e : eqV (vS w) (vS w) = decide (w = w) := eqV_S
  rw [e]
  exact decide_eq_true rfl⟩
theorem s_neTold (pw : plain w) (h1 : Told05 H p1 w s) (h2 : Told05 H p2 w s) (k : ∀ G, Ex [] H G → Q (.bl false) G) : rNeS K (.ref p1) (.ref p2) H Q := by
  obtain ⟨r1, z1, f1⟩ := h1
  obtain ⟨r2, z2, f2⟩ := h2
  cases s with
  | inl d => exact .inl (s_neFr (n := 12) (m := 12) (by decide) (fr_told05 pw z1 f1) (fr_told05 pw z2 f2) (k H Ex.rfl))
  | inr b =>
    refine .inr ⟨⟨p1, p2, _, _, rfl, rfl, z1, z2, Prs.cons (.inl (.inl flat_vS)) (Prs.cons (.inr ⟨r1, r2, _, _, rfl, rfl, f1, f2, Prs.cons (.inl flat_vS) (Prs.cons (.inr ⟨b, rfl, rfl⟩) Prs.nil)⟩) Prs.nil)⟩, fun G e => k G fun b o _ hb => e b o hb⟩
theorem s_neRings {b1 b2 : Addr} {l : List Nat} (h1 : Told05 H p1 w (.inr b1)) (h2 : Told05 H p2 w (.inr b2)) (g1 : RingAt K H b1 l) (g2 : RingAt K H b2 l) (k : ∀ G, Ex [] H G → Q (.bl false) G) : rNeR K (He.ga K "Ring") (RingEq K) (.ref p1) (.ref p2) H Q := by
  obtain ⟨r1, z1, f1⟩ := h1
  obtain ⟨r2, z2, f2⟩ := h2
  obtain ⟨dx, i1⟩ := id g1
  obtain ⟨dy, i2⟩ := id g2
  refine .inr ⟨⟨p1, p2, _, _, rfl, rfl, z1, z2, Prs.cons (.inl (.inl flat_vS)) (Prs.cons (.inr ⟨r1, r2, _, _, rfl, rfl, f1, f2, Prs.cons (.inl flat_vS) (Prs.cons (.inr ⟨b1, b2, dx, dy, _, _, rfl, rfl, i1, i2, l, g1, g2⟩) Prs.nil)⟩) Prs.nil)⟩, fun G e => k G fun b o _ hb => e b o hb⟩
end
end WB
namespace WB
open PySem PySem.Spec PyProof.Rows L2 LamX
local macro_rules | `(tactic| walk_at "lit") => `(tactic| first | exact lit_abc | exact lit_empty)
local macro_rules | `(tactic| walk_at "nm") => `(tactic| focus first | exact List.not_mem_nil | (simp only [List.mem_singleton]; first | assumption | (exact Ne.symm (by assumption)) | (intro hz; subst hz; simp_all; done)))
local macro_rules | `(tactic| walk_at "hp") => `(tactic| first | assumption | (apply Ex.get0 (by assumption); walk_at "hp") | (apply Ex.get (by assumption); (walk_at "nm"); (walk_at "hp")))
local macro_rules | `(tactic| walk_at "sq") => `(tactic| first | assumption | (apply SqL.of; walk_at "hp") | (apply Ex.sqL (by assumption); (walk_at "nm"); (walk_at "sq")))
local macro_rules | `(tactic| walk_at "sqt") => `(tactic| first | assumption | (apply SqT.of; walk_at "hp") | (apply Ex.sqT (by assumption); (walk_at "nm"); (walk_at "sqt")))
local macro_rules | `(tactic| walk_at "sz") => `(tactic| focus ((with_reducible refine Nat.le_trans (m := 100000) ?_ (by decide)); first | omega | (simp; done) | (simp; omega)))
local macro_rules | `(tactic| walk_at "mul") => `(tactic| first | exact Or.inr ⟨by omega, by omega⟩ | exact Or.inl ⟨by omega, by omega⟩)
local macro_rules | `(tactic| walk_at "pool") => `(tactic| first | assumption | (apply PoolAt.ex (by assumption); (walk_at "nm"); (walk_at "pool")))
local macro_rules | `(tactic| walk_at "ring") => `(tactic| first | assumption | (apply RingAt.ex (by assumption); (walk_at "nm"); (walk_at "ring")))
local macro_rules | `(tactic| walk_at "st") => `(tactic| first
  | with_reducible refine s_seq ?_
  | with_reducible refine s_asg ?_
  | with_reducible refine s_gName ?_
  | with_reducible refine s_ret ?_
  | with_reducible refine s_ifS ?_
  | with_reducible refine s_next ?_
  | with_reducible refine s_op ?_
  | ((with_reducible apply s_var); exact rfl)
  | ((with_reducible apply s_cS); (walk_at "lit"))
  | with_reducible refine s_c ?_
  | with_reducible refine s_cb ?_
  | with_reducible refine s_cons ?_
  | with_reducible refine s_nil ?_
  | with_reducible refine s_un ?_
  | with_reducible refine s_call ?_
  | with_reducible refine s_test ?_
  | with_reducible refine s_tB ?_
  | with_reducible refine s_blQ ?_
  | with_reducible refine s_not ?_
  | with_reducible refine s_and ?_
  | with_reducible refine s_or ?_
  | with_reducible refine s_andV ?_
  | with_reducible refine s_orV ?_
  | with_reducible refine s_notV ?_
  | with_reducible refine s_ifE ?_
  | with_reducible refine s_chain ?_
  | ((with_reducible refine s_T ?_ ?_); (with_reducible exact rfl))
  | with_reducible refine s_nT ?_
  | with_reducible refine s_nF ?_
  | ((with_reducible refine s_F ?_ ?_); (with_reducible exact rfl))
  | ((with_reducible refine s_T ?_ ?_); assumption)
  | ((with_reducible refine s_F ?_ ?_); assumption)
  | ((with_reducible refine s_nB ?_ ?_); assumption)
  | ((with_reducible refine s_nA ?_ ?_); assumption)
  | ((with_reducible refine s_Td ?_ ?_); omega)
  | ((with_reducible refine s_Fd ?_ ?_); omega)
  | ((with_reducible refine s_nTd ?_ ?_); omega)
  | ((with_reducible refine s_nFd ?_ ?_); omega)
  | with_reducible refine s_sfld ?_
  | with_reducible refine s_addI ?_
  | with_reducible refine s_subI ?_
  | ((with_reducible refine s_mulI ?_ ?_); (walk_at "mul"))
  | ((with_reducible refine s_divI ?_ ?_); exact ⟨by omega, by omega⟩)
  | ((with_reducible refine s_modI ?_ ?_); omega)
  | ((with_reducible refine s_powI ?_ ?_); exact ⟨by decide, by decide, by decide⟩)
  | with_reducible refine s_ltI ?_
  | with_reducible refine s_leI ?_
  | with_reducible refine s_gtI ?_
  | with_reducible refine s_geI ?_
  | with_reducible refine s_negI ?_
  | with_reducible refine s_absI ?_
  | with_reducible refine s_intI ?_
  | with_reducible refine s_min2 ?_
  | with_reducible refine s_max2 ?_
  | with_reducible refine s_eqI ?_
  | with_reducible refine s_neI ?_
  | with_reducible refine s_eqS ?_
  | with_reducible refine s_neS ?_
  | with_reducible refine s_inSg ?_
  | with_reducible refine s_notInSg ?_
  | ((with_reducible refine s_addS ?_ ?_); (walk_at "sz"))
  | ((with_reducible refine s_lenS ?_ ?_); (walk_at "sz"))
  | ((with_reducible apply s_lenL); (walk_at "sq"))
  | ((with_reducible apply s_lenT); (walk_at "sqt"))
  | ((with_reducible apply s_ixL); (walk_at "sq"); exact rfl)
  | ((with_reducible apply s_ixT); (walk_at "sqt"); exact rfl)
  | with_reducible refine s_gSub ?_
  | ((with_reducible apply s_setL); (walk_at "hp"); (exact rfl); (intro _ _ _))
  | ((with_reducible refine s_alloc ?_ ?_); (walk_at "sz"); (intro _ _ _ _ _))
  | ((with_reducible refine s_divmod ?_ ?_); (exact ⟨by omega, PyProof.noPylong_small (by omega)⟩); (intro _ _ _ _ _))
  | ((with_reducible apply s_gTup); (walk_at "sqt"); (exact rfl))
  | ((with_reducible apply s_gLst); (walk_at "sq"); (exact rfl))
  | with_reducible refine s_gCons ?_
  | with_reducible refine s_gNil ?_
  | with_reducible refine s_lc ?_
  | ((with_reducible apply s_cat); (walk_at "hp"); (walk_at "hp"); (walk_at "sz"); (intro _ _ _ _ _))
  | ((with_reducible apply s_slL); (walk_at "sq"); (intro _ _ _ _ _))
  | with_reducible refine s_for ?_
  | with_reducible refine s_rng1 ?_
  | ((with_reducible refine s_rng1i ?_ ?_); (constructor <;> omega))
  | with_reducible refine s_rng2 ?_
  | ((with_reducible refine s_rng2i ?_ ?_); (refine ⟨?_, ?_, ?_, ?_⟩ <;> omega))
  | with_reducible refine s_iStr ?_
  | with_reducible refine s_iStrS ?_
  | with_reducible refine s_iList ?_
  | ((with_reducible apply s_iListA); (walk_at "sq"))
  | with_reducible refine s_iTup ?_
  | ((with_reducible apply s_iTupA); (walk_at "sqt"))
  | with_reducible refine s_sl ?_
  | with_reducible refine s_noPart ?_
  | with_reducible refine s_part ?_
  | with_reducible refine s_int1 ?_
  | ((with_reducible refine s_slS ?_ ?_); (walk_at "sz"))
  | with_reducible refine s_tup ?_
  | with_reducible refine s_lst ?_
  | with_reducible refine s_par ?_
  | with_reducible refine s_pair ?_
  | with_reducible refine s_M1 ?_
  | with_reducible refine s_isStr ?_
  | with_reducible refine s_revS ?_
  | ((with_reducible refine s_revS1 ?_ ?_); (walk_at "sz"))
  | with_reducible refine s_fldE ?_
  | with_reducible refine s_propE ?_
  | ((with_reducible refine u_draw ?_ ?_ ?_ ?_); omega; omega; (walk_at "pool"); (intro _ _ _ _ _ _))
  | ((with_reducible refine u_pool ?_); (intro _ _ _ _ _))
  | with_reducible refine u_is_integer ?_
  | with_reducible refine s_isiII ?_
  | with_reducible refine s_isiIB ?_
  | with_reducible refine s_isiSS ?_
  | ((with_reducible apply u_fldRing); assumption; (walk_at "ring"))
  | ((with_reducible apply u_textP); (walk_at "ring"))
  | ((with_reducible apply u_strRing); (walk_at "ring"))
  | ((with_reducible apply u_eqRing); (walk_at "ring"); (walk_at "ring"))
  | ((with_reducible apply u_isiRing); assumption; (walk_at "ring"))
  | ((with_reducible refine u_is_word ?_ ?_); omega; (intro _ _))
  | ((with_reducible refine u_turnings ?_ ?_); omega; (intro _ _ _ _ _))
  | with_reducible refine s_makeE ?_
  | with_reducible refine s_methE ?_)
local macro_rules | `(tactic| walk_at "go") => `(tactic| repeat (walk_at "st"))
local macro_rules | `(tactic| walk_at "exs") => `(tactic| first | exact Ex.rfl | assumption | (apply Ex.snoc (by assumption); walk_at "exs") | (apply Ex.snocW (by assumption); walk_at "exs"))
def t_Ring_init_x (K : PySem.W.Frag) (E : XK) : TS :=
  (tSeq (tIfS (tNot (tB (tCall (sp_is_word K) [(vS LET)] E0 (tCons (tVar 1) tNil)))) (tRs K (He.ga K "InvalidWord") "given" E (tCons (tVar 1) tNil)) tNext)
  tNever)
def t_Ring_turned_x (K : PySem.W.Frag) (E : XK) : TS :=
  (tSeq (tIfS (tNot (tB (tCall (sp_is_integer K) [] E0 (tCons (tVar 1) tNil)))) (tRs K (He.ga K "InvalidPlace") "given" E (tCons (tVar 1) tNil)) tNext)
  tNever)
def t_Ring_getitem_x (K : PySem.W.Frag) (E : XK) : TS :=
  (tSeq (tIfS (tB (tCall (sp_is_integer K) [] E0 (tCons (tVar 1) tNil))) (tRet (tMeth (He.ga K "Ring") "stretch" (sp_Ring_stretch K) [] E0 (tVar 0) (tCons (tVar 1) (tCons (tC (.int 1)) tNil)))) tNext)
  (tSeq (tIfS (tOr (tNot (tB (tCall (sp_is_row K) [] E0 (tCons (tVar 1) (tCons (tC (.int 2)) tNil))))) (tOr (tNot (tB (tCall (sp_is_integer K) [] E0 (tCons (tOp (rIxT K) (tVar 1) (tC (.int 0))) tNil)))) (tNot (tB (tCall (sp_is_within K) [] E0 (tCons (tOp (rIxT K) (tVar 1) (tC (.int 1))) (tCons (tC (.int 1)) (tCons (tC (.int 600)) tNil)))))))) (tRs K (He.ga K "InvalidPlace") "given" E (tCons (tVar 1) tNil)) tNext)
  tNever))
def t_Ring_mul_x (K : PySem.W.Frag) (E : XK) : TS :=
  (tSeq (tIfS (tOr (tNot (tB (tCall (sp_is_integer K) [] E0 (tCons (tVar 1) tNil)))) (tTest (tOp rLtI (tVar 1) (tC (.int 1))))) (tRs K (He.ga K "InvalidNumber") "given" E (tCons (tVar 1) tNil)) tNext)
  (tSeq (tIfS (tTest (tOp rGtI (tOp rMulI (tCB (rLenV K) (tCons (tFld K (tVar 0) "least") tNil)) (tVar 1)) (tC (.int 600)))) (tRs K (He.ga K "InvalidWord") "given" E (tCons (tVar 1) tNil)) tNext)
  (tRet (tMake (He.ga K "Ring") (spx_Ring_init K) [] E (tCons (tOp rMulS (tFld K (tVar 0) "least") (tVar 1)) tNil)))))
def t_Ring_add_x (K : PySem.W.Frag) (E : XK) : TS :=
  (tSeq (tIfS (tNot (tB (tCB (rIsi K) (tCons (tVar 1) (tCons (tC (.ref (He.ga K "Ring"))) tNil))))) (tRs K (He.ga K "NotARing") "given" E (tCons (tVar 1) tNil)) tNext)
  (tSeq (tIfS (tTest (tOp rGtI (tOp rAddI (tCB (rLenV K) (tCons (tFld K (tVar 0) "least") tNil)) (tCB (rLenV K) (tCons (tFld K (tVar 1) "least") tNil))) (tC (.int 600)))) (tRs K (He.ga K "InvalidWord") "given" E (tCons (tVar 1) tNil)) tNext)
  (tRet (tMake (He.ga K "Ring") (spx_Ring_init K) [] E (tCons (tOp rAddS (tFld K (tVar 0) "least") (tFld K (tVar 1) "least")) tNil)))))
section
variable {K : PySem.W.Frag} {vs : List V} {H H1 H' : Hp} {Q : VK} {E : XK}
abbrev XW (K : PySem.W.Frag) : Prop := ExcK K (He.ga K "InvalidWord") (He.ma K (He.ga K "InvalidWord") "__init__") "given"
abbrev XP (K : PySem.W.Frag) : Prop := ExcK K (He.ga K "InvalidPlace") (He.ma K (He.ga K "InvalidPlace") "__init__") "given"
abbrev XN (K : PySem.W.Frag) : Prop := ExcK K (He.ga K "InvalidNumber") (He.ma K (He.ga K "InvalidNumber") "__init__") "given"
abbrev XR (K : PySem.W.Frag) : Prop := ExcK K (He.ga K "NotARing") (He.ma K (He.ga K "NotARing") "__init__") "given"
theorem pure_Ring_init_x (X : XW K) (h : spr_Ring_init K vs H Q E) : t_Ring_init_x K E (E1 Q) (start ["self", "text"] vs) H := by
  obtain ⟨x, v, rfl, hb, r⟩ := h
  show t_Ring_init_x K E (E1 Q) [some (.ref x), some v] H
  unfold t_Ring_init_x
  refine s_seq (s_ifS (s_not (s_tB (s_call (s_cons (s_var (v := v) rfl (s_nil ?_)))))))
  rcases hb with ⟨l, rfl, hl, hw⟩ | ⟨n, hn, hk⟩
  · refine u_is_word hl fun G e => s_blQ ?_
    rw [hw]
    exact s_T rfl (s_rs (s_cons (s_var (v := vS l) rfl (s_nil (rsd_of X e r)))))
  · exact u_not_word hk hn (s_blQ (s_T rfl (s_rs (s_cons (s_var (v := v) rfl (s_nil (rsd_of X Ex.rfl r)))))))
theorem pure_Ring_turned_x (F : RingK K) (X : XP K) (h : spr_Ring_turned K vs H Q E) : t_Ring_turned_x K E (E1 Q) (start ["self", "i"] vs) H := by
  obtain ⟨a, v, rfl, ⟨n, hn, hk⟩, r⟩ := h
  show t_Ring_turned_x K E (E1 Q) [some (.ref a), some v] H
  unfold t_Ring_turned_x
  refine s_seq (s_ifS (s_not (s_tB (s_call (s_cons (s_var (v := v) rfl (s_nil ?_)))))))
  exact u_not_integer hk hn (s_blQ (s_T rfl (s_rs (s_cons (s_var (v := v) rfl (s_nil (rsd_of X Ex.rfl r)))))))
theorem pure_Ring_getitem_x (F : RingK K) (X : XP K) (h : spr_Ring_getitem K vs H Q E) : t_Ring_getitem_x K E (E1 Q) (start ["self", "at"] vs) H := by
  obtain ⟨a, v, rfl, ⟨n, hk, hn, hb⟩, r⟩ := h
  show t_Ring_getitem_x K E (E1 Q) [some (.ref a), some v] H
  unfold t_Ring_getitem_x
  have fin : ∀ {G : Hp}, Ex [] H G → (if (true : Bool) = true then (tRs K (He.ga K "InvalidPlace") "given" E (tCons (tVar 1) tNil)) (E1 Q) [some (.ref a), some v] G else tNext (E1 Q) [some (.ref a), some v] G) := fun {G} e => s_T rfl (s_rs (s_cons (s_var (v := v) rfl (s_nil (rsd_of X e r)))))
  refine s_seq (s_ifS (s_tB (s_call (s_cons (s_var (v := v) rfl (s_nil (u_not_integer hk hn (s_blQ (s_F rfl (s_next ?_))))))))))
  refine s_seq (s_ifS (s_or (s_not (s_tB (s_call (s_cons (s_var (v := v) rfl (s_cons (s_c (s_nil ?_))))))))))
  rcases hb with hm | ⟨p, xs, rfl, hs, hb⟩
  · refine ⟨v, 2, rfl, .inr ⟨n, hk, hm, s_blQ (s_T rfl ?_)⟩⟩
    exact s_T rfl (s_rs (s_cons (s_var (v := v) rfl (s_nil (rsd_of X Ex.rfl r)))))
  · refine u_row hs (s_blQ ?_)
    rcases hb with hb | ⟨u1, u2, rfl, hb⟩
    · rw [decide_eq_false (by omega)]
      exact s_T rfl (s_T rfl (s_rs (s_cons (s_var (v := .ref p) rfl (s_nil (rsd_of X Ex.rfl r))))))
    · rw [decide_eq_true (by rfl)]
      refine s_F rfl (s_or (s_not (s_tB (s_call (s_cons (s_op (s_var (v := .ref p) rfl (s_c (s_ixT hs (atI_of (by decide) rfl) (s_nil ?_)))))))))) 
      rcases hb with ⟨n1, hn1, hk1⟩ | ⟨⟨i, rfl⟩, hb⟩
      · exact u_not_integer hk1 hn1 (s_blQ (s_T rfl (s_T rfl (s_rs (s_cons (s_var (v := .ref p) rfl (s_nil (rsd_of X Ex.rfl r))))))))
      · refine u_is_integer (s_blQ (s_F rfl (s_not (s_tB (s_call (s_cons (s_op (s_var (v := .ref p) rfl (s_c (s_ixT hs (atI_of (by decide) rfl) (s_cons (s_c (s_cons (s_c (s_nil ?_))))))))))))))) 
        rcases hb with ⟨n2, hn2, hk2⟩ | ⟨j, rfl, hj⟩
        · refine ⟨_, 1, 600, rfl, .inr ⟨n2, hk2, hn2, s_blQ ?_⟩⟩
          exact s_T rfl (s_rs (s_cons (s_var (v := .ref p) rfl (s_nil (rsd_of X Ex.rfl r)))))
        · refine u_within (s_blQ ?_)
          rw [decide_eq_false hj]
          exact s_T rfl (s_rs (s_cons (s_var (v := .ref p) rfl (s_nil (rsd_of X Ex.rfl r)))))
theorem pure_Ring_mul_x (F : RingK K) (X : XW K) (Y : XN K) (h : spr_Ring_mul K vs H Q E) : t_Ring_mul_x K E (E1 Q) (start ["self", "times"] vs) H := by
  obtain ⟨a, v, rfl, l, ha, hl, hb⟩ := h
  show t_Ring_mul_x K E (E1 Q) [some (.ref a), some v] H
  unfold t_Ring_mul_x
  refine s_seq (s_ifS (s_or (s_not (s_tB (s_call (s_cons (s_var (v := v) rfl (s_nil ?_))))))))
  rcases hb with ⟨⟨i, rfl, hi⟩ | ⟨n, hn, hk⟩, r⟩ | ⟨i, rfl, h1, h2, r⟩
  · refine u_is_integer (s_blQ (s_F rfl ?_))
    refine s_test (s_op (s_var (v := .int i) rfl (s_c (s_ltI (s_blQ ?_)))))
    rw [decide_eq_true hi]
    exact s_T rfl (s_rs (s_cons (s_var (v := .int i) rfl (s_nil (rsd_of Y Ex.rfl r)))))
  · refine u_not_integer hk hn (s_blQ (s_T rfl ?_))
    exact s_T rfl (s_rs (s_cons (s_var (v := v) rfl (s_nil (rsd_of Y Ex.rfl r)))))
  · refine u_is_integer (s_blQ (s_F rfl ?_))
    refine s_test (s_op (s_var (v := .int i) rfl (s_c (s_ltI (s_blQ ?_)))))
    rw [decide_eq_false (by omega)]
    refine s_F rfl (s_next ?_)
    walk_at "go"
    exact s_rs (s_cons (s_var (v := .int i) rfl (s_nil (rsd_of X Ex.rfl r))))
theorem pure_Ring_add_x (F : Own05 K) (X : XW K) (Y : XR K) (h : spr_Ring_add K vs H Q E) : t_Ring_add_x K E (E1 Q) (start ["self", "other"] vs) H := by
  obtain ⟨a, v, rfl, l, ha, hl, hb⟩ := h
  show t_Ring_add_x K E (E1 Q) [some (.ref a), some v] H
  unfold t_Ring_add_x
  have F := F.rk
  rcases hb with ⟨⟨n, hk⟩, r⟩ | ⟨b, m, rfl, hb, hm, h2, r⟩
  · refine s_seq (s_ifS (s_not (s_tB (s_cb (s_cons (s_var (v := v) rfl (s_cons (s_c (s_nil ?_)))))))))
    refine ⟨_, _, _, _, _, rfl, .own _, hk.1, F.no n hk.2, s_blQ ?_⟩
    exact s_T rfl (s_rs (s_cons (s_var (v := v) rfl (s_nil (rsd_of Y Ex.rfl r)))))
  · walk_at "go"
    exact s_rs (s_cons (s_var (v := .ref b) rfl (s_nil (rsd_of X Ex.rfl r))))
end
end WB
namespace WB
open PySem PySem.Spec PyProof.Rows L2
theorem lit_97 : ("a" : Str) = S [97] := by decide +kernel
theorem lit_97_98 : ("ab" : Str) = S [97, 98] := by decide +kernel
theorem lit_65 : ("A" : Str) = S [65] := by decide +kernel
theorem lit_97_32_98 : ("a b" : Str) = S [97, 32, 98] := by decide +kernel
theorem lit_97_97 : ("aa" : Str) = S [97, 97] := by decide +kernel
theorem lit_97_10 : ("a\n" : Str) = S [97, 10] := by decide +kernel
theorem lit_97_98_99_100_101 : ("abcde" : Str) = S [97, 98, 99, 100, 101] := by decide +kernel
local macro_rules | `(tactic| walk_at "lit") => `(tactic| first | exact lit_97 | exact lit_97_98 | exact lit_65 | exact lit_97_32_98 | exact lit_97_97 | exact lit_97_10 | exact lit_97_98_99_100_101)
local macro_rules | `(tactic| walk_at "lit") => `(tactic| first | exact lit_abc | exact lit_empty)
local macro_rules | `(tactic| walk_at "nm") => `(tactic| focus first | exact List.not_mem_nil | (simp only [List.mem_singleton]; first | assumption | (exact Ne.symm (by assumption)) | (intro hz; subst hz; simp_all; done)))
local macro_rules | `(tactic| walk_at "hp") => `(tactic| first | assumption | (apply Ex.get0 (by assumption); walk_at "hp") | (apply Ex.get (by assumption); (walk_at "nm"); (walk_at "hp")))
local macro_rules | `(tactic| walk_at "sq") => `(tactic| first | assumption | (apply SqL.of; walk_at "hp") | (apply Ex.sqL (by assumption); (walk_at "nm"); (walk_at "sq")))
local macro_rules | `(tactic| walk_at "sqt") => `(tactic| first | assumption | (apply SqT.of; walk_at "hp") | (apply Ex.sqT (by assumption); (walk_at "nm"); (walk_at "sqt")))
local macro_rules | `(tactic| walk_at "sz") => `(tactic| focus ((with_reducible refine Nat.le_trans (m := 100000) ?_ (by decide)); first | omega | (simp; done) | (simp; omega)))
local macro_rules | `(tactic| walk_at "mul") => `(tactic| first | exact Or.inr ⟨by omega, by omega⟩ | exact Or.inl ⟨by omega, by omega⟩)
local macro_rules | `(tactic| walk_at "pool") => `(tactic| first | assumption | (apply PoolAt.ex (by assumption); (walk_at "nm"); (walk_at "pool")))
local macro_rules | `(tactic| walk_at "ring") => `(tactic| first | assumption | (apply RingAt.ex (by assumption); (walk_at "nm"); (walk_at "ring")))
local macro_rules | `(tactic| walk_at "st") => `(tactic| first
  | with_reducible refine s_seq ?_
  | with_reducible refine s_asg ?_
  | with_reducible refine s_gName ?_
  | with_reducible refine s_ret ?_
  | with_reducible refine s_ifS ?_
  | with_reducible refine s_next ?_
  | with_reducible refine s_op ?_
  | ((with_reducible apply s_var); exact rfl)
  | ((with_reducible apply s_cS); (walk_at "lit"))
  | with_reducible refine s_c ?_
  | with_reducible refine s_cb ?_
  | with_reducible refine s_cons ?_
  | with_reducible refine s_nil ?_
  | with_reducible refine s_un ?_
  | with_reducible refine s_call ?_
  | with_reducible refine s_test ?_
  | with_reducible refine s_tB ?_
  | with_reducible refine s_blQ ?_
  | with_reducible refine s_not ?_
  | with_reducible refine s_and ?_
  | with_reducible refine s_or ?_
  | with_reducible refine s_andV ?_
  | with_reducible refine s_orV ?_
  | with_reducible refine s_notV ?_
  | with_reducible refine s_ifE ?_
  | with_reducible refine s_chain ?_
  | ((with_reducible refine s_T ?_ ?_); (with_reducible exact rfl))
  | with_reducible refine s_nT ?_
  | with_reducible refine s_nF ?_
  | ((with_reducible refine s_F ?_ ?_); (with_reducible exact rfl))
  | ((with_reducible refine s_T ?_ ?_); assumption)
  | ((with_reducible refine s_F ?_ ?_); assumption)
  | ((with_reducible refine s_nB ?_ ?_); assumption)
  | ((with_reducible refine s_nA ?_ ?_); assumption)
  | ((with_reducible refine s_Td ?_ ?_); omega)
  | ((with_reducible refine s_Fd ?_ ?_); omega)
  | ((with_reducible refine s_nTd ?_ ?_); omega)
  | ((with_reducible refine s_nFd ?_ ?_); omega)
  | with_reducible refine s_sfld ?_
  | with_reducible refine s_addI ?_
  | with_reducible refine s_subI ?_
  | ((with_reducible refine s_mulI ?_ ?_); (walk_at "mul"))
  | ((with_reducible refine s_divI ?_ ?_); exact ⟨by omega, by omega⟩)
  | ((with_reducible refine s_modI ?_ ?_); omega)
  | ((with_reducible refine s_powI ?_ ?_); exact ⟨by decide, by decide, by decide⟩)
  | with_reducible refine s_ltI ?_
  | with_reducible refine s_leI ?_
  | with_reducible refine s_gtI ?_
  | with_reducible refine s_geI ?_
  | with_reducible refine s_negI ?_
  | with_reducible refine s_absI ?_
  | with_reducible refine s_intI ?_
  | with_reducible refine s_min2 ?_
  | with_reducible refine s_max2 ?_
  | with_reducible refine s_eqI ?_
  | with_reducible refine s_neI ?_
  | with_reducible refine s_eqS ?_
  | with_reducible refine s_neS ?_
  | with_reducible refine s_inSg ?_
  | with_reducible refine s_notInSg ?_
  | ((with_reducible refine s_addS ?_ ?_); (walk_at "sz"))
  | ((with_reducible refine s_lenS ?_ ?_); (walk_at "sz"))
  | ((with_reducible apply s_lenL); (walk_at "sq"))
  | ((with_reducible apply s_lenT); (walk_at "sqt"))
  | ((with_reducible apply s_ixL); (walk_at "sq"); exact rfl)
  | ((with_reducible apply s_ixT); (walk_at "sqt"); exact rfl)
  | with_reducible refine s_gSub ?_
  | ((with_reducible apply s_setL); (walk_at "hp"); (exact rfl); (intro _ _ _))
  | ((with_reducible refine s_alloc ?_ ?_); (walk_at "sz"); (intro _ _ _ _ _))
  | ((with_reducible refine s_divmod ?_ ?_); (exact ⟨by omega, PyProof.noPylong_small (by omega)⟩); (intro _ _ _ _ _))
  | ((with_reducible apply s_gTup); (walk_at "sqt"); (exact rfl))
  | ((with_reducible apply s_gLst); (walk_at "sq"); (exact rfl))
  | with_reducible refine s_gCons ?_
  | with_reducible refine s_gNil ?_
  | with_reducible refine s_lc ?_
  | ((with_reducible apply s_cat); (walk_at "hp"); (walk_at "hp"); (walk_at "sz"); (intro _ _ _ _ _))
  | ((with_reducible apply s_slL); (walk_at "sq"); (intro _ _ _ _ _))
  | with_reducible refine s_for ?_
  | with_reducible refine s_rng1 ?_
  | ((with_reducible refine s_rng1i ?_ ?_); (constructor <;> omega))
  | with_reducible refine s_rng2 ?_
  | ((with_reducible refine s_rng2i ?_ ?_); (refine ⟨?_, ?_, ?_, ?_⟩ <;> omega))
  | with_reducible refine s_iStr ?_
  | with_reducible refine s_iStrS ?_
  | with_reducible refine s_iList ?_
  | ((with_reducible apply s_iListA); (walk_at "sq"))
  | with_reducible refine s_iTup ?_
  | ((with_reducible apply s_iTupA); (walk_at "sqt"))
  | with_reducible refine s_sl ?_
  | with_reducible refine s_noPart ?_
  | with_reducible refine s_part ?_
  | with_reducible refine s_int1 ?_
  | ((with_reducible refine s_slS ?_ ?_); (walk_at "sz"))
  | with_reducible refine s_tup ?_
  | with_reducible refine s_lst ?_
  | with_reducible refine s_par ?_
  | with_reducible refine s_pair ?_
  | with_reducible refine s_M1 ?_
  | with_reducible refine s_isStr ?_
  | with_reducible refine s_revS ?_
  | ((with_reducible refine s_revS1 ?_ ?_); (walk_at "sz"))
  | with_reducible refine s_fldE ?_
  | with_reducible refine s_propE ?_
  | ((with_reducible refine u_draw ?_ ?_ ?_ ?_); omega; omega; (walk_at "pool"); (intro _ _ _ _ _ _))
  | ((with_reducible refine u_pool ?_); (intro _ _ _ _ _))
  | with_reducible refine u_is_integer ?_
  | with_reducible refine s_isiII ?_
  | with_reducible refine s_isiIB ?_
  | with_reducible refine s_isiSS ?_
  | ((with_reducible apply u_fldRing); assumption; (walk_at "ring"))
  | ((with_reducible apply u_textP); (walk_at "ring"))
  | ((with_reducible apply u_strRing); (walk_at "ring"))
  | ((with_reducible apply u_eqRing); (walk_at "ring"); (walk_at "ring"))
  | ((with_reducible apply u_isiRing); assumption; (walk_at "ring"))
  | ((with_reducible refine u_is_word ?_ ?_); omega; (intro _ _))
  | ((with_reducible refine u_turnings ?_ ?_); omega; (intro _ _ _ _ _))
  | with_reducible refine s_makeE ?_
  | with_reducible refine s_methE ?_)
local macro_rules | `(tactic| walk_at "go") => `(tactic| repeat (walk_at "st"))
local macro_rules | `(tactic| walk_at "exs") => `(tactic| first | exact Ex.rfl | assumption | (apply Ex.snoc (by assumption); walk_at "exs") | (apply Ex.snocW (by assumption); walk_at "exs"))
local macro_rules | `(tactic| walk_at "odd") => `(tactic| first | assumption | (apply OddAt.ex (by assumption); (walk_at "odd")))
local macro_rules | `(tactic| walk_at "st") => `(tactic| first
  | with_reducible refine s_inStr ?_
  | with_reducible refine s_pairs1 ?_
  | ((with_reducible refine s_dnew ?_); (intro _ _ _ _ _)))
def t_law_odd (K : PySem.W.Frag) : TS :=
  (tSeq (tAsg (tCall (sp_law_draw K) [] E0 (tCons (tVar 0) (tCons (tC (.int 27)) tNil))) (gName 1))
  (tSeq (tIfS (tTest (tOp rLtI (tVar 1) (tC (.int 11)))) (tRet (tOp (rIxL K) (tLst (tCons (tC .non) (tCons (tC (.bl true)) (tCons (tC (.bl false)) (tCons (tC (.int 0)) (tCons (tC (.int 1)) (tCons (tUn rNegI (tC (.int 1))) (tCons (tC (.int 2)) (tCons (tC (.int 7)) (tCons (tC (.int 600)) (tCons (tOp rPowI (tC (.int 10)) (tC (.int 38))) (tCons (tUn rNegI (tOp rPowI (tC (.int 10)) (tC (.int 38)))) tNil)))))))))))) (tVar 1))) tNext)
  (tSeq (tIfS (tTest (tOp rLtI (tVar 1) (tC (.int 19)))) (tRet (tOp (rIxL K) (tLst (tCons (tC (.str "")) (tCons (tC (.str "a")) (tCons (tC (.str "ab")) (tCons (tC (.str "A")) (tCons (tC (.str "a b")) (tCons (tC (.str "aa")) (tCons (tC (.str "a\n")) (tCons (tC (.str "abcde")) tNil))))))))) (tOp rSubI (tVar 1) (tC (.int 11))))) tNext)
  (tSeq (tIfS (tTest (tOp rLtI (tVar 1) (tC (.int 23)))) (tRet (tOp (rIxL K) (tLst (tCons (tLst tNil) (tCons (tLst (tCons (tC (.str "a")) tNil)) (tCons tDNewK (tCons (tDisp [((tC (.str "a")), (tC (.int 1)))]) tNil))))) (tOp rSubI (tVar 1) (tC (.int 19))))) tNext)
  (tRet (tOp (rIxL K) (tLst (tCons (tTup tNil) (tCons (tTup (tCons (tC (.str "a")) tNil)) (tCons (tTup (tCons (tC (.int 0)) (tCons (tC (.int 1)) tNil))) (tCons (tTup (tCons (tLst tNil) (tCons (tDisp [((tC (.str "a")), (tTup (tCons (tC (.int 1)) (tCons (tLst tNil) tNil))))]) tNil))) tNil))))) (tOp rSubI (tVar 1) (tC (.int 23)))))))))
section
variable {K : PySem.W.Frag} {vs : List V} {H : Hp} {Q : VK} {E : XK}
theorem pure_law_odd (h : sp_law_odd K vs H Q E) : t_law_odd K (E1 Q) (start ["_law_pool_here", "_law_way"] vs) H := by
  obtain ⟨a, rfl, hp, k⟩ := h
  show t_law_odd K (E1 Q) [some (.ref a), none] H
  unfold t_law_odd
  walk_at "go"
  rename_i w H1 w0 w1 e1 p1
  have na : ∀ {p : Addr}, H1 p = none → p ∉ [a] := fun {p} hn hm => p1.there (by rw [← List.mem_singleton.mp hm]; exact hn)
  refine s_2 (fun hb => ?_) (fun hb => ?_)
  · have hb := of_decide_eq_true hb
    walk_at "go"
    rename_i p H2 hn e2 h2
    have p2 : PoolAt H2 a := by walk_at "pool"
    have e12 : Ex [a] H H2 := by walk_at "exs"
    rcases (show w = 0 ∨ w = 1 ∨ w = 2 ∨ w = 3 ∨ w = 4 ∨ w = 5 ∨ w = 6 ∨ w = 7 ∨ w = 8 ∨ w = 9 ∨ w = 10 by omega) with rfl | rfl | rfl | rfl | rfl | rfl | rfl | rfl | rfl | rfl | rfl
    · exact s_ixL (SqL.of h2) rfl (k _ _ e12 p2 .non)
    · exact s_ixL (SqL.of h2) rfl (k _ _ e12 p2 (.bl _))
    · exact s_ixL (SqL.of h2) rfl (k _ _ e12 p2 (.bl _))
    all_goals exact s_ixL (SqL.of h2) rfl (k _ _ e12 p2 (.int _ (by decide +kernel)))
  walk_at "go"
  have hb := of_decide_eq_false hb
  refine s_2 (fun hb2 => ?_) (fun hb2 => ?_)
  · have hb2 := of_decide_eq_true hb2
    walk_at "go"
    rename_i p H2 hn e2 h2
    have p2 : PoolAt H2 a := by walk_at "pool"
    have e12 : Ex [a] H H2 := by walk_at "exs"
    rcases (show w = 11 ∨ w = 12 ∨ w = 13 ∨ w = 14 ∨ w = 15 ∨ w = 16 ∨ w = 17 ∨ w = 18 by omega) with rfl | rfl | rfl | rfl | rfl | rfl | rfl | rfl
    all_goals exact s_ixL (SqL.of h2) rfl (k _ _ e12 p2 (.str _ (by decide)))
  walk_at "go"
  have hb2 := of_decide_eq_false hb2
  refine s_2 (fun hb3 => ?_) (fun hb3 => ?_)
  · have hb3 := of_decide_eq_true hb3
    walk_at "go"
    rename_i q1 H2 n2 e2 h2 q2 H3 n3 e3 h3 q3 H4 n4 e4 h4
    refine s_disp1 (z := kA) (v := .int 1) (fun _ _ _ _ _ R kk => ?_) fun q4 H5 n5 e5 h5 => ?_
    · walk_at "go"
      exact kk _ Ex.rfl
    walk_at "go"
    rename_i p H6 n6 e6 h6
    have p6 : PoolAt H6 a := by walk_at "pool"
    have e12 : Ex [a] H H6 := by walk_at "exs"
    rcases (show w = 19 ∨ w = 20 ∨ w = 21 ∨ w = 22 by omega) with rfl | rfl | rfl | rfl
    · exact s_ixL (SqL.of h6) rfl (k _ _ e12 p6 (.l0 (na n2) (by walk_at "hp")))
    · exact s_ixL (SqL.of h6) rfl (k _ _ e12 p6 (.l1 (na (e2.free n3)) (by walk_at "hp")))
    · exact s_ixL (SqL.of h6) rfl (k _ _ e12 p6 (.d0 (na (e2.free (e3.free n4))) (by walk_at "hp")))
    · exact s_ixL (SqL.of h6) rfl (k _ _ e12 p6 (.d1 (na (e2.free (e3.free (e4.free n5)))) (by walk_at "hp")))
  · have hb3 := of_decide_eq_false hb3
    walk_at "go"
    rename_i q1 H2 n2 e2 h2 q2 H3 n3 e3 h3 q3 H4 n4 e4 h4 q4 H5 n5 e5 h5
    intro c hc
    walk_at "go"
    rename_i q5 H6 n6 e6 h6 q6 H7 n7 e7 h7
    have e5c : Ex [] H5 (upd H5 c (.dK [])) := Ex.new hc
    have hcc : (upd H5 c (.dK [])) c = some (.dK []) := upd_same
    have hc7 : H7 c = some (.dK []) := by walk_at "hp"
    refine ⟨hc7, [(kA, .ref q6)], rfl, by simp, ?_⟩
    rw [show mergeK [] [(kA, V.ref q6)] = [(kA, V.ref q6)] from rfl]
    have e7c : Ex [c] H7 (upd H7 c (.dK [(kA, .ref q6)])) := Ex.put (by simp)
    have hc8 : (upd H7 c (.dK [(kA, .ref q6)])) c = some (.dK [(kA, .ref q6)]) := upd_same
    have g : ∀ {H8 : Hp}, H8 = upd H7 c (.dK [(kA, .ref q6)]) → Ex [] H5 H8 := fun {H8} ez b o _ hb => by
      rw [ez, upd_ne (ne_of_none hb hc)]
      exact e7 b o (by simp) (e6 b o (by simp) (e5c b o (by simp) hb))
    have n6' : H5 q5 = none := e5c.free n6
    have n7' : H5 q6 = none := e5c.free (e6.free n7)
    have ne1 : q5 ≠ c := fun z => by rw [z, hcc] at n6; cases n6
    have ne2 : q6 ≠ c := fun z => by rw [z, e6 c _ (by simp) hcc] at n7; cases n7
    have h6' : (upd H7 c (.dK [(kA, .ref q6)])) q5 = some (.lst []) := by rw [upd_ne ne1]; exact e7 _ _ (by simp) h6
    have h7' : (upd H7 c (.dK [(kA, .ref q6)])) q6 = some (.tup [.int 1, .ref q5]) := by rw [upd_ne ne2]; exact h7
    have e58 := g rfl
    revert h6' h7' e58 hc8
    generalize upd H7 c (.dK [(kA, .ref q6)]) = H8
    intro hc8 h6' h7' e58
    clear g e7c hc7 e5c hcc
    walk_at "go"
    rename_i q7 H9 n9 e9 h9 p Ha na' ea ha
    have pa : PoolAt Ha a := by
      have p5 : PoolAt H5 a := by walk_at "pool"
      have p8 : PoolAt H8 a := PoolAt.ex e58 (by simp) p5
      walk_at "pool"
    have e12 : Ex [a] H Ha := by
      have e15 : Ex [a] H H5 := by walk_at "exs"
      have e18 : Ex [a] H H8 := e15.trans e58.wide
      walk_at "exs"
    have f15 : ∀ {p : Addr}, H5 p = none → H1 p = none := fun {p} z => e2.free (e3.free (e4.free (e5.free z)))
    rcases (show w = 23 ∨ w = 24 ∨ w = 25 ∨ w = 26 by omega) with rfl | rfl | rfl | rfl
    · exact s_ixL (SqL.of ha) rfl (k _ _ e12 pa (.t0 (na n2) (ea.get0 (e9.get0 (e58.get0 (by walk_at "hp"))))))
    · exact s_ixL (SqL.of ha) rfl (k _ _ e12 pa (.t1 (na (e2.free n3)) (ea.get0 (e9.get0 (e58.get0 (by walk_at "hp"))))))
    · exact s_ixL (SqL.of ha) rfl (k _ _ e12 pa (.t2 (na (e2.free (e3.free n4))) (ea.get0 (e9.get0 (e58.get0 (by walk_at "hp"))))))
    · exact s_ixL (SqL.of ha) rfl (k _ _ e12 pa (.t3 (na (f15 (e58.free n9))) (na (e2.free (e3.free (e4.free n5)))) (na (f15 hc)) (na (f15 n7')) (na (f15 n6')) (ea.get0 h9) (ea.get0 (e9.get0 (e58.get0 h5))) (ea.get0 (e9.get0 hc8)) (ea.get0 (e9.get0 h7')) (ea.get0 (e9.get0 h6'))))
end
end WB
namespace WB
open PySem PySem.Spec PyProof.Rows L2 LamX
theorem l05b_119_111_114_100 : ("word" : Str) = S [119, 111, 114, 100] := by decide +kernel
theorem l05b_112_108_97_99_101 : ("place" : Str) = S [112, 108, 97, 99, 101] := by decide +kernel
theorem l05b_110_117_109_98_101_114 : ("number" : Str) = S [110, 117, 109, 98, 101, 114] := by decide +kernel
theorem l05b_114_105_110_103 : ("ring" : Str) = S [114, 105, 110, 103] := by decide +kernel
theorem l05b_110_111_116_104_105_110_103 : ("nothing" : Str) = S [110, 111, 116, 104, 105, 110, 103] := by decide +kernel
local macro_rules | `(tactic| walk_at "lit") => `(tactic| first | exact l05b_119_111_114_100 | exact l05b_112_108_97_99_101 | exact l05b_110_117_109_98_101_114 | exact l05b_114_105_110_103 | exact l05b_110_111_116_104_105_110_103)
local macro_rules | `(tactic| walk_at "lit") => `(tactic| first | exact lit_abc | exact lit_empty)
local macro_rules | `(tactic| walk_at "nm") => `(tactic| focus first | exact List.not_mem_nil | (simp only [List.mem_singleton]; first | assumption | (exact Ne.symm (by assumption)) | (intro hz; subst hz; simp_all; done)))
local macro_rules | `(tactic| walk_at "hp") => `(tactic| first | assumption | (apply Ex.get0 (by assumption); walk_at "hp") | (apply Ex.get (by assumption); (walk_at "nm"); (walk_at "hp")))
local macro_rules | `(tactic| walk_at "sq") => `(tactic| first | assumption | (apply SqL.of; walk_at "hp") | (apply Ex.sqL (by assumption); (walk_at "nm"); (walk_at "sq")))
local macro_rules | `(tactic| walk_at "sqt") => `(tactic| first | assumption | (apply SqT.of; walk_at "hp") | (apply Ex.sqT (by assumption); (walk_at "nm"); (walk_at "sqt")))
local macro_rules | `(tactic| walk_at "sz") => `(tactic| focus ((with_reducible refine Nat.le_trans (m := 100000) ?_ (by decide)); first | omega | (simp; done) | (simp; omega)))
local macro_rules | `(tactic| walk_at "mul") => `(tactic| first | exact Or.inr ⟨by omega, by omega⟩ | exact Or.inl ⟨by omega, by omega⟩)
local macro_rules | `(tactic| walk_at "pool") => `(tactic| first | assumption | (apply PoolAt.ex (by assumption); (walk_at "nm"); (walk_at "pool")))
local macro_rules | `(tactic| walk_at "ring") => `(tactic| first | assumption | (apply RingAt.ex (by assumption); (walk_at "nm"); (walk_at "ring")))
local macro_rules | `(tactic| walk_at "st") => `(tactic| first
  | with_reducible refine s_seq ?_
  | with_reducible refine s_asg ?_
  | with_reducible refine s_gName ?_
  | with_reducible refine s_ret ?_
  | with_reducible refine s_ifS ?_
  | with_reducible refine s_next ?_
  | with_reducible refine s_op ?_
  | ((with_reducible apply s_var); exact rfl)
  | ((with_reducible apply s_cS); (walk_at "lit"))
  | with_reducible refine s_c ?_
  | with_reducible refine s_cb ?_
  | with_reducible refine s_cons ?_
  | with_reducible refine s_nil ?_
  | with_reducible refine s_un ?_
  | with_reducible refine s_call ?_
  | with_reducible refine s_test ?_
  | with_reducible refine s_tB ?_
  | with_reducible refine s_blQ ?_
  | with_reducible refine s_not ?_
  | with_reducible refine s_and ?_
  | with_reducible refine s_or ?_
  | with_reducible refine s_andV ?_
  | with_reducible refine s_orV ?_
  | with_reducible refine s_notV ?_
  | with_reducible refine s_ifE ?_
  | with_reducible refine s_chain ?_
  | ((with_reducible refine s_T ?_ ?_); (with_reducible exact rfl))
  | with_reducible refine s_nT ?_
  | with_reducible refine s_nF ?_
  | ((with_reducible refine s_F ?_ ?_); (with_reducible exact rfl))
  | ((with_reducible refine s_T ?_ ?_); assumption)
  | ((with_reducible refine s_F ?_ ?_); assumption)
  | ((with_reducible refine s_nB ?_ ?_); assumption)
  | ((with_reducible refine s_nA ?_ ?_); assumption)
  | ((with_reducible refine s_Td ?_ ?_); omega)
  | ((with_reducible refine s_Fd ?_ ?_); omega)
  | ((with_reducible refine s_nTd ?_ ?_); omega)
  | ((with_reducible refine s_nFd ?_ ?_); omega)
  | with_reducible refine s_sfld ?_
  | with_reducible refine s_addI ?_
  | with_reducible refine s_subI ?_
  | ((with_reducible refine s_mulI ?_ ?_); (walk_at "mul"))
  | ((with_reducible refine s_divI ?_ ?_); exact ⟨by omega, by omega⟩)
  | ((with_reducible refine s_modI ?_ ?_); omega)
  | ((with_reducible refine s_powI ?_ ?_); exact ⟨by decide, by decide, by decide⟩)
  | with_reducible refine s_ltI ?_
  | with_reducible refine s_leI ?_
  | with_reducible refine s_gtI ?_
  | with_reducible refine s_geI ?_
  | with_reducible refine s_negI ?_
  | with_reducible refine s_absI ?_
  | with_reducible refine s_intI ?_
  | with_reducible refine s_min2 ?_
  | with_reducible refine s_max2 ?_
  | with_reducible refine s_eqI ?_
  | with_reducible refine s_neI ?_
  | with_reducible refine s_eqS ?_
  | with_reducible refine s_neS ?_
  | with_reducible refine s_inSg ?_
  | with_reducible refine s_notInSg ?_
  | ((with_reducible refine s_addS ?_ ?_); (walk_at "sz"))
  | ((with_reducible refine s_lenS ?_ ?_); (walk_at "sz"))
  | ((with_reducible apply s_lenL); (walk_at "sq"))
  | ((with_reducible apply s_lenT); (walk_at "sqt"))
  | ((with_reducible apply s_ixL); (walk_at "sq"); exact rfl)
  | ((with_reducible apply s_ixT); (walk_at "sqt"); exact rfl)
  | with_reducible refine s_gSub ?_
  | ((with_reducible apply s_setL); (walk_at "hp"); (exact rfl); (intro _ _ _))
  | ((with_reducible refine s_alloc ?_ ?_); (walk_at "sz"); (intro _ _ _ _ _))
  | ((with_reducible refine s_divmod ?_ ?_); (exact ⟨by omega, PyProof.noPylong_small (by omega)⟩); (intro _ _ _ _ _))
  | ((with_reducible apply s_gTup); (walk_at "sqt"); (exact rfl))
  | ((with_reducible apply s_gLst); (walk_at "sq"); (exact rfl))
  | with_reducible refine s_gCons ?_
  | with_reducible refine s_gNil ?_
  | with_reducible refine s_lc ?_
  | ((with_reducible apply s_cat); (walk_at "hp"); (walk_at "hp"); (walk_at "sz"); (intro _ _ _ _ _))
  | ((with_reducible apply s_slL); (walk_at "sq"); (intro _ _ _ _ _))
  | with_reducible refine s_for ?_
  | with_reducible refine s_rng1 ?_
  | ((with_reducible refine s_rng1i ?_ ?_); (constructor <;> omega))
  | with_reducible refine s_rng2 ?_
  | ((with_reducible refine s_rng2i ?_ ?_); (refine ⟨?_, ?_, ?_, ?_⟩ <;> omega))
  | with_reducible refine s_iStr ?_
  | with_reducible refine s_iStrS ?_
  | with_reducible refine s_iList ?_
  | ((with_reducible apply s_iListA); (walk_at "sq"))
  | with_reducible refine s_iTup ?_
  | ((with_reducible apply s_iTupA); (walk_at "sqt"))
  | with_reducible refine s_sl ?_
  | with_reducible refine s_noPart ?_
  | with_reducible refine s_part ?_
  | with_reducible refine s_int1 ?_
  | ((with_reducible refine s_slS ?_ ?_); (walk_at "sz"))
  | with_reducible refine s_tup ?_
  | with_reducible refine s_lst ?_
  | with_reducible refine s_par ?_
  | with_reducible refine s_pair ?_
  | with_reducible refine s_M1 ?_
  | with_reducible refine s_isStr ?_
  | with_reducible refine s_revS ?_
  | ((with_reducible refine s_revS1 ?_ ?_); (walk_at "sz"))
  | with_reducible refine s_fldE ?_
  | with_reducible refine s_propE ?_
  | ((with_reducible refine u_draw ?_ ?_ ?_ ?_); omega; omega; (walk_at "pool"); (intro _ _ _ _ _ _))
  | ((with_reducible refine u_pool ?_); (intro _ _ _ _ _))
  | with_reducible refine u_is_integer ?_
  | with_reducible refine s_isiII ?_
  | with_reducible refine s_isiIB ?_
  | with_reducible refine s_isiSS ?_
  | ((with_reducible apply u_fldRing); assumption; (walk_at "ring"))
  | ((with_reducible apply u_textP); (walk_at "ring"))
  | ((with_reducible apply u_strRing); (walk_at "ring"))
  | ((with_reducible apply u_eqRing); (walk_at "ring"); (walk_at "ring"))
  | ((with_reducible apply u_isiRing); assumption; (walk_at "ring"))
  | ((with_reducible refine u_is_word ?_ ?_); omega; (intro _ _))
  | ((with_reducible refine u_turnings ?_ ?_); omega; (intro _ _ _ _ _))
  | with_reducible refine s_makeE ?_
  | with_reducible refine s_methE ?_)
local macro_rules | `(tactic| walk_at "go") => `(tactic| repeat (walk_at "st"))
local macro_rules | `(tactic| walk_at "exs") => `(tactic| first | exact Ex.rfl | assumption | (apply Ex.snoc (by assumption); walk_at "exs") | (apply Ex.snocW (by assumption); walk_at "exs"))
def t_law_heard05 (K : PySem.W.Frag) (f c' : Addr) (q : Str) (tl : XK → Hp → VK → Prop) : TS :=
  (tSeq (tAsg (tC .non) (gName 1))
  (tSeq (tTryL K [(.ref (He.ga K "InvalidWord"), some 2, fun a cls d => (tPar 3 1 (tCons (tC (.str "word")) (tCons (tXf a cls d (He.ga K "InvalidWord") "given" (tVar 2)) tNil)))), (.ref (He.ga K "InvalidPlace"), some 2, fun a cls d => (tPar 3 1 (tCons (tC (.str "place")) (tCons (tXf a cls d (He.ga K "InvalidPlace") "given" (tVar 2)) tNil)))), (.ref (He.ga K "InvalidNumber"), some 2, fun a cls d => (tPar 3 1 (tCons (tC (.str "number")) (tCons (tXf a cls d (He.ga K "InvalidNumber") "given" (tVar 2)) tNil)))), (.ref (He.ga K "NotARing"), some 2, fun a cls d => (tPar 3 1 (tCons (tC (.str "ring")) (tCons (tXf a cls d (He.ga K "NotARing") "given" (tVar 2)) tNil))))] (fun W => (tSeq (tDrop (tAct f c' q tl W))
  (tAsg (tC (.str "nothing")) (gName 3)))))
  (tRet (tLst (tCons (tVar 3) (tCons (tCall (sp_law_faceR K 6) [] E0 (tCons (tVar 1) tNil)) tNil))))))
def t_law_due05 (K : PySem.W.Frag) : TS :=
  (tRet (tLst (tCons (tVar 0) (tCons (tCall (sp_law_faceR K 6) [] E0 (tCons (tIf (tTest (tOp rEq (tVar 0) (tC (.str "nothing")))) (tC .non) (tVar 1)) tNil)) tNil))))
def t_law_wholeK (K : PySem.W.Frag) : TS :=
  (tRet (tAndV (tCB (rIsi K) (tCons (tVar 0) (tCons (tC (.ty "int")) tNil))) (tNotV (tCB (rIsi K) (tCons (tVar 0) (tCons (tC (.ty "bool")) tNil))))))
def t_law_times_due (K : PySem.W.Frag) : TS :=
  (tSeq (tIfS (tOr (tNot (tB (tCall (sp_law_wholeK K) [] E0 (tCons (tVar 0) tNil)))) (tTest (tOp rLtI (tVar 0) (tC (.int 1))))) (tRet (tC (.str "number"))) tNext)
  (tRet (tIf (tTest (tOp rLeI (tOp rMulI (tVar 1) (tVar 0)) (tC (.int 600)))) (tC (.str "nothing")) (tC (.str "word")))))
section
variable {K : PySem.W.Frag} {vs : List V} {H H1 H' : Hp} {Q : VK} {E : XK} {m : List Addr}
theorem thNone : ThAt K m H .non (.inl .none) := .of (n := "NoneType") (by decide) (by decide) fun _ _ => ⟨dx_scal (.inl ⟨rfl, rfl⟩), .non⟩
theorem pure_law_heard05 (mm : ExmAll K ["InvalidWord", "InvalidPlace", "InvalidNumber", "NotARing"]) {f c' : Addr} {q : Str} {tl : XK → Hp → VK → Prop} (hc : H c' = some (CodeO c' q)) (h : TT_law_heard05 K tl H Q) : t_law_heard05 K f c' q tl (E1 Q) (start ["_law_act", "_law_kept", "e", "_law_word_here"] [.ref f]) H := by
  show t_law_heard05 K f c' q tl (E1 Q) [some (.ref f), none, none, none] H
  unfold t_law_heard05
  have fin : ∀ {σ : L2.St} {w : List Nat} {s : Th12} {v : V} {H' : Hp}, ThAt K [] H' v s → (∀ p H2, Ex [] H' H2 → Told05 H2 p w s → Q (.ref p) H2) → sp_law_faceR K 6 ([v] ++ []) H' (fun x H1 => tNil σ H1 fun xs H2 => Al (HO.lst (vS w :: x :: xs)) (vS w :: x :: xs).length H2 Q) E0 := by
    intro σ w s v H' hs k
    exact u_faceR hs fun r H1 hr e1 f1 => s_nil (s_alloc (by show 2 ≤ sizeLine; decide) fun p H2 np e2 hp => k p H2 (e1.trans e2) ⟨r, hp, f1.ex0 e2⟩)
  have ex : ∀ {x y : Str} {b : Bool}, x ∈ (["InvalidWord", "InvalidPlace", "InvalidNumber", "NotARing"] : List Str) → y ∈ (["InvalidWord", "InvalidPlace", "InvalidNumber", "NotARing"] : List Str) → decide (x = y) = b → PySem.W.exmOne K (.ref (He.ga K x)) (.ref (He.ga K y)) = some b := fun hx hy hb => by
    rw [← hb]
    exact mm _ hx _ hy
  refine s_seq (s_asg (s_c (s_gName (s_seq (s_tryL ?_)))))
  refine s_seq (s_drop ?_)
  refine s_act rfl hc (E1 := Heard05 K Q) (Q1 := fun _ H' => ∀ p H2, Ex [] H' H2 → Told05 H2 p sNothing (.inl .none) → Q (.ref p) H2) ?_ ?_ h
  · rintro cls dd H' ⟨C, w, hm, rfl, d, v, s, rfl, hx, hs, hf⟩
    simp only [heards05, List.mem_cons, List.not_mem_nil, or_false, Prod.mk.injEq] at hm
    rcases hm with ⟨rfl, rfl⟩ | ⟨rfl, rfl⟩ | ⟨rfl, rfl⟩ | ⟨rfl, rfl⟩
    · refine ⟨true, ex (by simp) (by simp) (by decide +kernel), fun _ a ha => ?_, fun z => nomatch z⟩
      refine s_par (s_cons (s_cS (l := s05Word) (by decide +kernel) (s_cons (s_xf (s_var rfl ⟨rfl, rfl, d, _, v, rfl, hx, rfl, s_nil ⟨_, _, rfl, ?_⟩⟩)))))
      exact s_ret (s_lst (s_cons (s_var (v := vS s05Word) rfl (s_cons (s_call (s_cons (s_var rfl (s_nil (fin hs hf)))))))))
    · refine ⟨false, ex (by simp) (by simp) (by decide +kernel), (fun z => nomatch z), fun _ => ?_⟩
      refine ⟨true, ex (by simp) (by simp) (by decide +kernel), fun _ a ha => ?_, fun z => nomatch z⟩
      refine s_par (s_cons (s_cS (l := s05Place) (by decide +kernel) (s_cons (s_xf (s_var rfl ⟨rfl, rfl, d, _, v, rfl, hx, rfl, s_nil ⟨_, _, rfl, ?_⟩⟩)))))
      exact s_ret (s_lst (s_cons (s_var (v := vS s05Place) rfl (s_cons (s_call (s_cons (s_var rfl (s_nil (fin hs hf)))))))))
    · refine ⟨false, ex (by simp) (by simp) (by decide +kernel), (fun z => nomatch z), fun _ => ?_⟩
      refine ⟨false, ex (by simp) (by simp) (by decide +kernel), (fun z => nomatch z), fun _ => ?_⟩
      refine ⟨true, ex (by simp) (by simp) (by decide +kernel), fun _ a ha => ?_, fun z => nomatch z⟩
      refine s_par (s_cons (s_cS (l := s05Number) (by decide +kernel) (s_cons (s_xf (s_var rfl ⟨rfl, rfl, d, _, v, rfl, hx, rfl, s_nil ⟨_, _, rfl, ?_⟩⟩)))))
      exact s_ret (s_lst (s_cons (s_var (v := vS s05Number) rfl (s_cons (s_call (s_cons (s_var rfl (s_nil (fin hs hf)))))))))
    · refine ⟨false, ex (by simp) (by simp) (by decide +kernel), (fun z => nomatch z), fun _ => ?_⟩
      refine ⟨false, ex (by simp) (by simp) (by decide +kernel), (fun z => nomatch z), fun _ => ?_⟩
      refine ⟨false, ex (by simp) (by simp) (by decide +kernel), (fun z => nomatch z), fun _ => ?_⟩
      refine ⟨true, ex (by simp) (by simp) (by decide +kernel), fun _ a ha => ?_, fun z => nomatch z⟩
      refine s_par (s_cons (s_cS (l := s05Ring) (by decide +kernel) (s_cons (s_xf (s_var rfl ⟨rfl, rfl, d, _, v, rfl, hx, rfl, s_nil ⟨_, _, rfl, ?_⟩⟩)))))
      exact s_ret (s_lst (s_cons (s_var (v := vS s05Ring) rfl (s_cons (s_call (s_cons (s_var rfl (s_nil (fin hs hf)))))))))
  · intro v H' hf
    refine s_asg (s_cS (l := sNothing) (by decide +kernel) (s_gName ?_))
    exact s_ret (s_lst (s_cons (s_var (v := vS sNothing) rfl (s_cons (s_call (s_cons (s_var rfl (s_nil (fin thNone hf)))))))))
theorem pure_law_due05 (h : sp_law_due05 K vs H Q E) : t_law_due05 K (E1 Q) (start ["_law_word_here", "_law_thing"] vs) H := by
  obtain ⟨w, v, rfl, m, s, hs, k⟩ := h
  show t_law_due05 K (E1 Q) [some (vS w), some v] H
  unfold t_law_due05
  refine s_ret (s_lst (s_cons (s_var (v := vS w) rfl (s_cons (s_call (s_cons (s_ifE (s_test (s_op (s_var (v := vS w) rfl (s_cS (l := sNothing) (by decide +kernel) (s_eqS (s_blQ ?_))))))))))))) 
  have fin : ∀ {σ : L2.St} {v : V}, ThAt K m H v (due05 w s) → sp_law_faceR K 6 ([v] ++ []) H (fun x H1 => tNil σ H1 fun xs H2 => Al (HO.lst (vS w :: x :: xs)) (vS w :: x :: xs).length H2 Q) E0 := fun hs => u_faceR hs fun r H1 hr e1 f1 => s_nil (s_alloc (by show 2 ≤ sizeLine; decide) fun p H2 np e2 hp => k p H2 (e1.free np) (e1.trans e2) ⟨r, hp, f1.ex0 e2⟩)
  by_cases hw : w = sNothing
  · refine s_T (decide_eq_true hw) (s_c (s_nil (fin ?_)))
    unfold due05
    rw [if_pos hw]
    exact thNone
  · refine s_F (decide_eq_false hw) (s_var rfl (s_nil (fin ?_)))
    unfold due05
    rw [if_neg hw]
    exact hs
theorem pure_law_wholeK (h : sp_law_wholeK K vs H Q E) : t_law_wholeK K (E1 Q) (start ["_law_thing"] vs) H := by
  obtain ⟨v, n, rfl, hk, k⟩ := h
  show t_law_wholeK K (E1 Q) [some v] H
  unfold t_law_wholeK
  walk_at "go"
  have hn := hk.2
  simp only [KD, List.mem_cons, List.not_mem_nil, or_false] at hn
  rcases hn with rfl | rfl | rfl | rfl | rfl | rfl | rfl
  · refine s_isiK hk (b := true) (by decide +kernel) ?_
    walk_at "go"
    refine s_isiK hk (b := false) (by decide +kernel) ?_
    walk_at "go"
    exact k
  · refine s_isiK hk (b := true) (by decide +kernel) ?_
    walk_at "go"
    refine s_isiK hk (b := true) (by decide +kernel) ?_
    walk_at "go"
    exact k
  all_goals
    refine s_isiK hk (b := false) (by decide +kernel) ?_
    walk_at "go"
    exact k
theorem pure_law_times_due (h : sp_law_times_due K vs H Q E) : t_law_times_due K (E1 Q) (start ["_law_times", "_law_size"] vs) H := by
  obtain ⟨v, n, rfl, h⟩ := h
  show t_law_times_due K (E1 Q) [some v, some (.int n)] H
  unfold t_law_times_due
  refine s_seq (s_ifS (s_or (s_not (s_tB (s_call (s_cons (s_var (v := v) rfl (s_nil ?_))))))))
  rcases h with ⟨⟨i, rfl, hi⟩ | hk, k⟩ | ⟨i, rfl, hi, n0, n1, k⟩
  · refine u_wholeI (s_blQ (s_F rfl (s_test (s_op (s_var (v := .int i) rfl (s_c (s_ltI (s_blQ ?_))))))))
    rw [decide_eq_true hi]
    exact s_T rfl (s_ret (s_cS (l := s05Number) (by decide +kernel) k))
  · exact u_wholeN hk (s_blQ (s_T rfl (s_T rfl (s_ret (s_cS (l := s05Number) (by decide +kernel) k)))))
  · refine u_wholeI (s_blQ (s_F rfl (s_test (s_op (s_var (v := .int i) rfl (s_c (s_ltI (s_blQ ?_))))))))
    rw [decide_eq_false (by omega)]
    refine s_F rfl (s_next (s_ret (s_ifE (s_test (s_op (s_op (s_var (v := .int n) rfl (s_var (v := .int i) rfl (s_mulI (.inl ⟨by omega, by omega⟩) (s_c (s_leI (s_blQ ?_)))))))))))) 
    by_cases hc : n * i ≤ 600
    · rw [if_pos hc] at k
      exact s_T (decide_eq_true hc) (s_cS (l := sNothing) (by decide +kernel) k)
    · rw [if_neg hc] at k
      exact s_F (decide_eq_false hc) (s_cS (l := s05Word) (by decide +kernel) k)
end
end WB
namespace WB
open PySem PySem.Spec PyProof.Rows L2 LamX
theorem l05c_110_111_116_104_105_110_103 : ("nothing" : Str) = S [110, 111, 116, 104, 105, 110, 103] := by decide +kernel
theorem l05c_112_108_97_99_101 : ("place" : Str) = S [112, 108, 97, 99, 101] := by decide +kernel
theorem l05c_65_48_32_95_45_123_10_122 : ("A0 _-{\nz" : Str) = S [65, 48, 32, 95, 45, 123, 10, 122] := by decide +kernel
local macro_rules | `(tactic| walk_at "lit") => `(tactic| first | exact l05c_110_111_116_104_105_110_103 | exact l05c_112_108_97_99_101 | exact l05c_65_48_32_95_45_123_10_122)
local macro_rules | `(tactic| walk_at "lit") => `(tactic| first | exact lit_abc | exact lit_empty)
local macro_rules | `(tactic| walk_at "nm") => `(tactic| focus first | exact List.not_mem_nil | (simp only [List.mem_singleton]; first | assumption | (exact Ne.symm (by assumption)) | (intro hz; subst hz; simp_all; done)))
local macro_rules | `(tactic| walk_at "hp") => `(tactic| first | assumption | (apply Ex.get0 (by assumption); walk_at "hp") | (apply Ex.get (by assumption); (walk_at "nm"); (walk_at "hp")))
local macro_rules | `(tactic| walk_at "sq") => `(tactic| first | assumption | (apply SqL.of; walk_at "hp") | (apply Ex.sqL (by assumption); (walk_at "nm"); (walk_at "sq")))
local macro_rules | `(tactic| walk_at "sqt") => `(tactic| first | assumption | (apply SqT.of; walk_at "hp") | (apply Ex.sqT (by assumption); (walk_at "nm"); (walk_at "sqt")))
local macro_rules | `(tactic| walk_at "sz") => `(tactic| focus ((with_reducible refine Nat.le_trans (m := 100000) ?_ (by decide)); first | omega | (simp; done) | (simp; omega)))
local macro_rules | `(tactic| walk_at "mul") => `(tactic| first | exact Or.inr ⟨by omega, by omega⟩ | exact Or.inl ⟨by omega, by omega⟩)
local macro_rules | `(tactic| walk_at "pool") => `(tactic| first | assumption | (apply PoolAt.ex (by assumption); (walk_at "nm"); (walk_at "pool")))
local macro_rules | `(tactic| walk_at "ring") => `(tactic| first | assumption | (apply RingAt.ex (by assumption); (walk_at "nm"); (walk_at "ring")))
local macro_rules | `(tactic| walk_at "st") => `(tactic| first
  | with_reducible refine s_seq ?_
  | with_reducible refine s_asg ?_
  | with_reducible refine s_gName ?_
  | with_reducible refine s_ret ?_
  | with_reducible refine s_ifS ?_
  | with_reducible refine s_next ?_
  | with_reducible refine s_op ?_
  | ((with_reducible apply s_var); exact rfl)
  | ((with_reducible apply s_cS); (walk_at "lit"))
  | with_reducible refine s_c ?_
  | with_reducible refine s_cb ?_
  | with_reducible refine s_cons ?_
  | with_reducible refine s_nil ?_
  | with_reducible refine s_un ?_
  | with_reducible refine s_call ?_
  | with_reducible refine s_test ?_
  | with_reducible refine s_tB ?_
  | with_reducible refine s_blQ ?_
  | with_reducible refine s_not ?_
  | with_reducible refine s_and ?_
  | with_reducible refine s_or ?_
  | with_reducible refine s_andV ?_
  | with_reducible refine s_orV ?_
  | with_reducible refine s_notV ?_
  | with_reducible refine s_ifE ?_
  | with_reducible refine s_chain ?_
  | ((with_reducible refine s_T ?_ ?_); (with_reducible exact rfl))
  | with_reducible refine s_nT ?_
  | with_reducible refine s_nF ?_
  | ((with_reducible refine s_F ?_ ?_); (with_reducible exact rfl))
  | ((with_reducible refine s_T ?_ ?_); assumption)
  | ((with_reducible refine s_F ?_ ?_); assumption)
  | ((with_reducible refine s_nB ?_ ?_); assumption)
  | ((with_reducible refine s_nA ?_ ?_); assumption)
  | ((with_reducible refine s_Td ?_ ?_); omega)
  | ((with_reducible refine s_Fd ?_ ?_); omega)
  | ((with_reducible refine s_nTd ?_ ?_); omega)
  | ((with_reducible refine s_nFd ?_ ?_); omega)
  | with_reducible refine s_sfld ?_
  | with_reducible refine s_addI ?_
  | with_reducible refine s_subI ?_
  | ((with_reducible refine s_mulI ?_ ?_); (walk_at "mul"))
  | ((with_reducible refine s_divI ?_ ?_); exact ⟨by omega, by omega⟩)
  | ((with_reducible refine s_modI ?_ ?_); omega)
  | ((with_reducible refine s_powI ?_ ?_); exact ⟨by decide, by decide, by decide⟩)
  | with_reducible refine s_ltI ?_
  | with_reducible refine s_leI ?_
  | with_reducible refine s_gtI ?_
  | with_reducible refine s_geI ?_
  | with_reducible refine s_negI ?_
  | with_reducible refine s_absI ?_
  | with_reducible refine s_intI ?_
  | with_reducible refine s_min2 ?_
  | with_reducible refine s_max2 ?_
  | with_reducible refine s_eqI ?_
  | with_reducible refine s_neI ?_
  | with_reducible refine s_eqS ?_
  | with_reducible refine s_neS ?_
  | with_reducible refine s_inSg ?_
  | with_reducible refine s_notInSg ?_
  | ((with_reducible refine s_addS ?_ ?_); (walk_at "sz"))
  | ((with_reducible refine s_lenS ?_ ?_); (walk_at "sz"))
  | ((with_reducible apply s_lenL); (walk_at "sq"))
  | ((with_reducible apply s_lenT); (walk_at "sqt"))
  | ((with_reducible apply s_ixL); (walk_at "sq"); exact rfl)
  | ((with_reducible apply s_ixT); (walk_at "sqt"); exact rfl)
  | with_reducible refine s_gSub ?_
  | ((with_reducible apply s_setL); (walk_at "hp"); (exact rfl); (intro _ _ _))
  | ((with_reducible refine s_alloc ?_ ?_); (walk_at "sz"); (intro _ _ _ _ _))
  | ((with_reducible refine s_divmod ?_ ?_); (exact ⟨by omega, PyProof.noPylong_small (by omega)⟩); (intro _ _ _ _ _))
  | ((with_reducible apply s_gTup); (walk_at "sqt"); (exact rfl))
  | ((with_reducible apply s_gLst); (walk_at "sq"); (exact rfl))
  | with_reducible refine s_gCons ?_
  | with_reducible refine s_gNil ?_
  | with_reducible refine s_lc ?_
  | ((with_reducible apply s_cat); (walk_at "hp"); (walk_at "hp"); (walk_at "sz"); (intro _ _ _ _ _))
  | ((with_reducible apply s_slL); (walk_at "sq"); (intro _ _ _ _ _))
  | with_reducible refine s_for ?_
  | with_reducible refine s_rng1 ?_
  | ((with_reducible refine s_rng1i ?_ ?_); (constructor <;> omega))
  | with_reducible refine s_rng2 ?_
  | ((with_reducible refine s_rng2i ?_ ?_); (refine ⟨?_, ?_, ?_, ?_⟩ <;> omega))
  | with_reducible refine s_iStr ?_
  | with_reducible refine s_iStrS ?_
  | with_reducible refine s_iList ?_
  | ((with_reducible apply s_iListA); (walk_at "sq"))
  | with_reducible refine s_iTup ?_
  | ((with_reducible apply s_iTupA); (walk_at "sqt"))
  | with_reducible refine s_sl ?_
  | with_reducible refine s_noPart ?_
  | with_reducible refine s_part ?_
  | with_reducible refine s_int1 ?_
  | ((with_reducible refine s_slS ?_ ?_); (walk_at "sz"))
  | with_reducible refine s_tup ?_
  | with_reducible refine s_lst ?_
  | with_reducible refine s_par ?_
  | with_reducible refine s_pair ?_
  | with_reducible refine s_M1 ?_
  | with_reducible refine s_isStr ?_
  | with_reducible refine s_revS ?_
  | ((with_reducible refine s_revS1 ?_ ?_); (walk_at "sz"))
  | with_reducible refine s_fldE ?_
  | with_reducible refine s_propE ?_
  | ((with_reducible refine u_draw ?_ ?_ ?_ ?_); omega; omega; (walk_at "pool"); (intro _ _ _ _ _ _))
  | ((with_reducible refine u_pool ?_); (intro _ _ _ _ _))
  | with_reducible refine u_is_integer ?_
  | with_reducible refine s_isiII ?_
  | with_reducible refine s_isiIB ?_
  | with_reducible refine s_isiSS ?_
  | ((with_reducible apply u_fldRing); assumption; (walk_at "ring"))
  | ((with_reducible apply u_textP); (walk_at "ring"))
  | ((with_reducible apply u_strRing); (walk_at "ring"))
  | ((with_reducible apply u_eqRing); (walk_at "ring"); (walk_at "ring"))
  | ((with_reducible apply u_isiRing); assumption; (walk_at "ring"))
  | ((with_reducible refine u_is_word ?_ ?_); omega; (intro _ _))
  | ((with_reducible refine u_turnings ?_ ?_); omega; (intro _ _ _ _ _))
  | with_reducible refine s_makeE ?_
  | with_reducible refine s_methE ?_)
local macro_rules | `(tactic| walk_at "go") => `(tactic| repeat (walk_at "st"))
local macro_rules | `(tactic| walk_at "exs") => `(tactic| first | exact Ex.rfl | assumption | (apply Ex.snoc (by assumption); walk_at "exs") | (apply Ex.snocW (by assumption); walk_at "exs"))
local macro_rules | `(tactic| walk_at "st") => `(tactic| first
  | with_reducible refine s_dcT ?_
  | with_reducible refine s_dc ?_)
def t_law_spot_due (K : PySem.W.Frag) : TS :=
  (tSeq (tIfS (tAnd (tB (tCB (rIsi K) (tCons (tVar 0) (tCons (tC (.ty "tuple")) tNil)))) (tAnd (tTest (tOp rEq (tCB (rLenV K) (tCons (tVar 0) tNil)) (tC (.int 2)))) (tAnd (tB (tCall (sp_law_wholeK K) [] E0 (tCons (tOp (rIxT K) (tVar 0) (tC (.int 0))) tNil))) (tB (tCall (sp_law_wholeK K) [] E0 (tCons (tOp (rIxT K) (tVar 0) (tC (.int 1))) tNil)))))) (tRet (tIf (tTest (tChain rLeI rLeI (tC (.int 1)) (tOp (rIxT K) (tVar 0) (tC (.int 1))) (tC (.int 600)))) (tC (.str "nothing")) (tC (.str "place")))) tNext)
  (tRet (tIf (tB (tCall (sp_law_wholeK K) [] E0 (tCons (tVar 0) tNil))) (tC (.str "nothing")) (tC (.str "place")))))
def t_law_spoilt05 (K : PySem.W.Frag) : TS :=
  (tSeq (tPar 2 3 (tCons (tCall (sp_law_draw K) [] E0 (tCons (tVar 0) (tCons (tOp rAddI (tCB (rLenV K) (tCons (tVar 1) tNil)) (tC (.int 1))) tNil))) (tCons (tOp rIxS (tC (.str "A0 _-{\nz")) (tCall (sp_law_draw K) [] E0 (tCons (tVar 0) (tCons (tC (.int 8)) tNil)))) tNil)))
  (tSeq (tIfS (tTest (tOp rGtI (tCall (sp_law_draw K) [] E0 (tCons (tVar 0) (tCons (tC (.int 3)) tNil))) (tC (.int 0)))) (tRet (tOp rAddS (tOp rAddS (tSl rSlS (tVar 1) tNoPart (tPart (tVar 2))) (tVar 3)) (tSl rSlS (tVar 1) (tPart (tOp rAddI (tVar 2) (tCall (sp_law_draw K) [] E0 (tCons (tVar 0) (tCons (tC (.int 2)) tNil))))) tNoPart))) tNext)
  (tRet (tSl rSlS (tOp rMulS (tVar 1) (tOp rAddI (tOp rDivI (tC (.int 602)) (tCB (rLenV K) (tCons (tVar 1) tNil))) (tC (.int 1)))) tNoPart (tPart (tOp rAddI (tC (.int 599)) (tCall (sp_law_draw K) [] E0 (tCons (tVar 0) (tCons (tC (.int 4)) tNil)))))))))
def t_law_spot05 (K : PySem.W.Frag) : TS :=
  (tSeq (tPar 1 2 (tCons (tOp rSubI (tCall (sp_law_draw K) [] E0 (tCons (tVar 0) (tCons (tC (.int 9)) tNil))) (tC (.int 4))) (tCons (tOp (rIxL K) (tLst (tCons (tC (.int 0)) (tCons (tC (.int 1)) (tCons (tC (.int 5)) (tCons (tC (.int 600)) (tCons (tC (.int 601)) (tCons (tUn rNegI (tC (.int 1))) (tCons (tOp rPowI (tC (.int 10)) (tC (.int 30))) tNil)))))))) (tCall (sp_law_draw K) [] E0 (tCons (tVar 0) (tCons (tC (.int 7)) tNil)))) tNil)))
  (tSeq (tPar 3 4 (tCons (tCall (sp_law_odd K) [] E0 (tCons (tVar 0) tNil)) (tCons (tCall (sp_law_draw K) [] E0 (tCons (tVar 0) (tCons (tC (.int 8)) tNil))) tNil)))
  (tSeq (tIfS (tTest (tOp rLtI (tVar 4) (tC (.int 2)))) (tRet (tOp (rIxL K) (tLst (tCons (tVar 1) (tCons (tTup (tCons (tVar 1) (tCons (tVar 2) tNil))) tNil))) (tVar 4))) tNext)
  (tSeq (tIfS (tTest (tOp rLtI (tVar 4) (tC (.int 5)))) (tRet (tOp (rIxL K) (tLst (tCons (tTup (tCons (tVar 3) (tCons (tC (.int 1)) tNil))) (tCons (tTup (tCons (tVar 1) (tCons (tVar 3) tNil))) (tCons (tTup (tCons (tVar 3) (tCons (tVar 3) tNil))) tNil)))) (tOp rSubI (tVar 4) (tC (.int 2))))) tNext)
  (tRet (tIf (tTest (tOp rGtI (tCall (sp_law_draw K) [] E0 (tCons (tVar 0) (tCons (tC (.int 3)) tNil))) (tC (.int 0)))) (tOp (rIxL K) (tLst (tCons (tLst (tCons (tVar 1) (tCons (tC (.int 1)) tNil))) (tCons (tTup (tCons (tVar 1) tNil)) (tCons (tTup (tCons (tVar 1) (tCons (tC (.int 1)) (tCons (tC (.int 1)) tNil)))) tNil)))) (tOp rSubI (tVar 4) (tC (.int 5)))) (tVar 3)))))))
section
variable {K : PySem.W.Frag} {vs : List V} {H H1 H' : Hp} {Q : VK} {E : XK} {m : List Addr} {a p : Addr}
theorem OddAt.val4 {v : V} (h : OddAt m H v) : ∃ d, ∀ H', ExN m H H' → Dx K H' 4 v d := by
  cases h with
  | non => exact ⟨.none, fun _ _ => dx_scal (.inl ⟨rfl, rfl⟩)⟩
  | bl b => exact ⟨.bool b, fun _ _ => dx_scal (.inr (.inl ⟨b, rfl, rfl⟩))⟩
  | int i h => exact ⟨.int i, fun _ _ => dx_scal scI⟩
  | str l h => exact ⟨dS l, fun _ _ => dx_scal (scS (oddS_plain h))⟩
  | l0 n h => exact ⟨.list [], fun H' e => have h' := e _ _ n h (fun _ z => by cases z); dx_lst h' (by simp) .nil⟩
  | l1 n h => exact ⟨.list [dS [97]], fun H' e => have h' := e _ _ n h (fun _ z => by cases z); dx_lst h' (by simp) (.cons (dx_scal (scS plain_a)) .nil)⟩
  | d0 n h => exact ⟨.dict [], fun H' e => have h' := e _ _ n h (fun _ z => by cases z); .inr (.inr (.inr (.inl ⟨_, rfl, rfl, h'⟩)))⟩
  | d1 n h => exact ⟨.dict [(dS [97], .int 1)], fun H' e => have h' := e _ _ n h (fun _ z => by cases z); .inr (.inr (.inr (.inr ⟨_, _, _, rfl, rfl, h', dd_scl scI⟩)))⟩
  | t0 n h => exact ⟨.tuple [], fun H' e => have h' := SqT.of (K := K) (e _ _ n h (fun _ z => by cases z)); dx_tup h' (by simp) .nil⟩
  | t1 n h => exact ⟨.tuple [dS [97]], fun H' e => have h' := SqT.of (K := K) (e _ _ n h (fun _ z => by cases z)); dx_tup h' (by simp) (.cons (dx_scal (scS plain_a)) .nil)⟩
  | t2 n h => exact ⟨.tuple [.int 0, .int 1], fun H' e => have h' := SqT.of (K := K) (e _ _ n h (fun _ z => by cases z)); dx_tup h' (by simp) (.cons (dx_scal scI) (.cons (dx_scal scI) .nil))⟩
  | @t3 a b c d e n nb nc nd ne h hb hc hd he =>
    refine ⟨.tuple [.list [], .dict [(dS [97], .tuple [.int 1, .list []])]], fun H' ex => ?_⟩
    have h' := SqT.of (K := K) (ex _ _ n h (fun _ z => by cases z))
    have hb' := ex _ _ nb hb (fun _ z => by cases z)
    have hc' := ex _ _ nc hc (fun _ z => by cases z)
    have hd' := ex _ _ nd hd (fun _ z => by cases z)
    have he' := ex _ _ ne he (fun _ z => by cases z)
    refine dx_tup h' (by simp) (.cons (dx_lst (n := 2) hb' (by simp) .nil) (.cons (.inr (.inr (.inr (.inr ⟨c, _, _, rfl, rfl, hc', ?_⟩)))) .nil))
    refine .inr (.inl ⟨d, _, _, rfl, rfl, SqT.of hd', by simp, rfl, fun i x y hx hy => ?_⟩)
    match i, hx, hy with
    | 0, hx, hy => cases hx; cases hy; exact dd_scl scI
    | 1, hx, hy => cases hx; cases hy; exact .inr (.inr ⟨e, [], [], rfl, rfl, he', by simp, rfl, fun i x y hx => by cases i <;> cases hx⟩)
theorem OddAt.el {v : V} (h : OddAt m H v) : ElI K m H v := by
  obtain ⟨d, hv⟩ := OddAt.val (K := K) h
  rcases hv.int with ⟨i, rfl, _⟩ | h
  · exact .inl ⟨i, rfl⟩
  · exact .inr h
theorem OddAt.spot {v : V} (h : OddAt m H v) : SpotAt K m H v := by
  have nt : ∀ {n : String}, n ≠ "int" → n ≠ "tuple" → (∀ H', ExN m H H' → Kd K H' v n) → SpotAt K m H v := fun h1 h2 hk => .no _ fun H' e => ⟨_, hk H' e, h1, .inl h2⟩
  have tp : ∀ {q : Addr} {xs : List V}, v = .ref q → (∀ H', ExN m H H' → SqT K H' q xs) → xs.length ≠ 2 → SpotAt K m H v := fun {q xs} hv hs hl => .no _ fun H' e => ⟨"tuple", by rw [hv]; exact Kd.tup (hs H' e), by decide, .inr ⟨q, xs, hv, hs H' e, hl⟩⟩
  cases h with
  | non => exact nt (n := "NoneType") (by decide) (by decide) fun _ _ => .non
  | bl b => exact nt (n := "bool") (by decide) (by decide) fun _ _ => .bl
  | int i h => exact .int i
  | str l h => exact nt (n := "str") (by decide) (by decide) fun _ _ => .str
  | l0 n h => exact nt (n := "list") (by decide) (by decide) fun H' e => .lst (e _ _ n h (fun _ z => by cases z))
  | l1 n h => exact nt (n := "list") (by decide) (by decide) fun H' e => .lst (e _ _ n h (fun _ z => by cases z))
  | d0 n h => exact nt (n := "dict") (by decide) (by decide) fun H' e => .dict (e _ _ n h (fun _ z => by cases z))
  | d1 n h => exact nt (n := "dict") (by decide) (by decide) fun H' e => .dict (e _ _ n h (fun _ z => by cases z))
  | t0 n h => exact tp (xs := []) rfl (fun H' e => SqT.of (e _ _ n h (fun _ z => by cases z))) (by decide)
  | t1 n h => exact tp (xs := [vS [97]]) rfl (fun H' e => SqT.of (e _ _ n h (fun _ z => by cases z))) (by simp)
  | t2 n h => exact .pair _ _ _ (fun H' e => SqT.of (e _ _ n h (fun _ z => by cases z))) (.inl ⟨0, rfl⟩) (.inl ⟨1, rfl⟩)
  | @t3 a b c d e n nb nc nd ne h hb hc hd he =>
    exact .pair _ _ _ (fun H' e => SqT.of (e _ _ n h (fun _ z => by cases z))) (.inr ⟨"list", by decide, fun H' e => .lst (e _ _ nb hb (fun _ z => by cases z))⟩) (.inr ⟨"dict", by decide, fun H' e => .dict (e _ _ nc hc (fun _ z => by cases z))⟩)
theorem spot_pair {u1 u2 : V} {d1 d2 : PyData} (np : p ∉ m) (h : H p = some (.tup [u1, u2])) (e1 : ElI K m H u1) (e2 : ElI K m H u2) (x1 : ∀ H', ExN m H H' → Dx K H' 4 u1 d1) (x2 : ∀ H', ExN m H H' → Dx K H' 4 u2 d2) : SpotAt K m H (.ref p) ∧ ValD K m H (.ref p) (.tuple [d1, d2]) := by
  have hs : ∀ H', ExN m H H' → SqT K H' p [u1, u2] := fun H' e => SqT.of (e _ _ np h (fun _ z => by cases z))
  exact ⟨.pair p u1 u2 hs e1 e2, .of (n := "tuple") (by decide) (by decide) fun H' e => ⟨dx_tup (hs H' e) (by simp) (.cons (x1 H' e) (.cons (x2 H' e) .nil)), .tup (hs H' e)⟩⟩
theorem kitB_tuple {n : String} (h : n ∈ KD) (hn : n ≠ "tuple") : kitB n "tuple" = some false := by
  simp only [KD, List.mem_cons, List.not_mem_nil, or_false] at h
  rcases h with rfl | rfl | rfl | rfl | rfl | rfl | rfl
  all_goals first | exact absurd rfl hn | decide +kernel
theorem pure_law_spot_due (h : sp_law_spot_due K vs H Q E) : t_law_spot_due K (E1 Q) (start ["_law_spot_here"] vs) H := by
  obtain ⟨v, rfl, h⟩ := h
  show t_law_spot_due K (E1 Q) [some v] H
  unfold t_law_spot_due
  have no : ∀ {i : Int} {b : Bool} {w : List Nat} {v : V}, NoInt K H v ∨ (v = .int i ∧ b = true) → True := fun _ => trivial
  clear no
  rcases h with ⟨⟨i, rfl⟩ | ⟨p, i, j, rfl, hs, h1, h2⟩, k⟩ | ⟨⟨n, hk, hn, hb⟩, k⟩
  · refine s_seq (s_ifS (s_and (s_tB (s_cb (s_cons (s_var (v := .int i) rfl (s_cons (s_c (s_nil (s_isiK Kd.int (b := false) (by decide +kernel) ?_))))))))))
    refine s_blQ (s_F rfl (s_F rfl (s_next ?_)))
    refine s_ret (s_ifE (s_tB (s_call (s_cons (s_var (v := .int i) rfl (s_nil (u_wholeI ?_)))))))
    exact s_blQ (s_T rfl (s_cS (l := sNothing) (by decide +kernel) k))
  · refine s_seq (s_ifS (s_and (s_tB (s_cb (s_cons (s_var (v := .ref p) rfl (s_cons (s_c (s_nil (s_isiK (Kd.tup hs) (b := true) (by decide +kernel) ?_))))))))))
    refine s_blQ (s_T rfl ?_)
    walk_at "go"
    refine s_T (decide_eq_true rfl) (s_and (s_tB (s_call (s_cons (s_op (s_var (v := .ref p) rfl (s_c (s_ixT hs (atI_of (by decide) rfl) (s_nil (u_wholeI ?_))))))))))
    refine s_blQ (s_T rfl (s_tB (s_call (s_cons (s_op (s_var (v := .ref p) rfl (s_c (s_ixT hs (atI_of (by decide) rfl) (s_nil (u_wholeI ?_))))))))))
    refine s_blQ (s_T rfl ?_)
    walk_at "go"
    exact k
  · have last : ∀ {D : Ends}, D.nx = (E1 Q).nx → D.rt = (E1 Q).rt → tRet (tIf (tB (tCall (sp_law_wholeK K) [] E0 (tCons (tVar 0) tNil))) (tC (.str "nothing")) (tC (.str "place"))) D [some v] H := fun {D} h1 h2 => by
      obtain ⟨a1, a2, a3, a4⟩ := D
      cases h1
      cases h2
      exact s_ret (s_ifE (s_tB (s_call (s_cons (s_var (v := v) rfl (s_nil (u_wholeN ⟨n, hn, hk⟩ (s_blQ (s_F rfl (s_cS (l := s05Place) (by decide +kernel) k))))))))))
    rcases hb with hm | ⟨p, xs, rfl, hs, hb⟩
    · refine s_seq (s_ifS (s_and (s_tB (s_cb (s_cons (s_var (v := v) rfl (s_cons (s_c (s_nil (s_isiK hk (b := false) (kitB_tuple hk.2 hm) ?_))))))))))
      exact s_blQ (s_F rfl (s_F rfl (s_next (last rfl rfl))))
    · refine s_seq (s_ifS (s_and (s_tB (s_cb (s_cons (s_var (v := .ref p) rfl (s_cons (s_c (s_nil (s_isiK (Kd.tup hs) (b := true) (by decide +kernel) ?_))))))))))
      refine s_blQ (s_T rfl ?_)
      walk_at "go"
      rcases hb with hb | ⟨u1, u2, rfl, hb⟩
      · refine s_F (decide_eq_false (by omega)) (s_F rfl (s_next (last rfl rfl)))
      · refine s_T (decide_eq_true rfl) (s_and (s_tB (s_call (s_cons (s_op (s_var (v := .ref p) rfl (s_c (s_ixT hs (atI_of (by decide) rfl) (s_nil ?_)))))))))
        rcases hb with h1 | ⟨⟨i, rfl⟩, hb⟩
        · exact u_wholeN h1 (s_blQ (s_F rfl (s_F rfl (s_next (last rfl rfl)))))
        · refine u_wholeI (s_blQ (s_T rfl (s_tB (s_call (s_cons (s_op (s_var (v := .ref p) rfl (s_c (s_ixT hs (atI_of (by decide) rfl) (s_nil ?_))))))))))
          rcases hb with h2 | ⟨j, rfl, hj⟩
          · exact u_wholeN h2 (s_blQ (s_F rfl (s_next (last rfl rfl))))
          · refine u_wholeI (s_blQ (s_T rfl ?_))
            walk_at "go"
            refine s_2 (fun hb => ?_) (fun hb => ?_)
            · walk_at "go"
              have hb := of_decide_eq_true hb
              exact s_F (decide_eq_false (by omega)) (s_cS (l := s05Place) (by decide +kernel) k)
            · walk_at "go"
              exact k
def marks05 : List Nat := [65, 48, 32, 95, 45, 123, 10, 122]
theorem pure_law_spoilt05 (h : sp_law_spoilt05 K vs H Q E) : t_law_spoilt05 K (E1 Q) (start ["_law_pool_here", "_law_word_here", "_law_at", "_law_mark"] vs) H := by
  obtain ⟨a, w, rfl, hw, hp, k⟩ := h
  show t_law_spoilt05 K (E1 Q) [some (.ref a), some (vS w), none, none] H
  unfold t_law_spoilt05
  have wl := isWord_len hw
  have pw : plain w := fun c hc => let_plain (isWord_in hw c hc)
  have hz : ∀ {n : Nat}, n ≤ 100000 → n ≤ sizeLine := fun h => Nat.le_trans h (by decide)
  walk_at "go"
  rename_i r1 H1 r10 r11 e1 p1 r2 H2 r20 r21 e2 p2
  have hr2 : r2.toNat < marks05.length := by show r2.toNat < 8; omega
  refine s_ixS (l := marks05) (by decide) (atI_of r20 (List.getElem?_eq_getElem hr2)) ?_
  have pc : plain [marks05[r2.toNat]] := fun c hc => by
    rw [List.mem_singleton.mp hc]
    have h : ∀ c ∈ marks05, c < 55296 := by decide
    exact h _ (List.getElem_mem hr2)
  generalize marks05[r2.toNat] = c at pc ⊢
  walk_at "go"
  rename_i r3 H3 r30 r31 e3 p3
  have e03 := (e1.trans e2).trans e3
  clear e1 e2 e3 p1 p2
  refine s_2 (fun hb => ?_) (fun hb => ?_)
  · walk_at "go"
    have l1 : (cut w none (some r1)).length ≤ w.length := cut_le
    refine s_addS (hz (by simp; omega)) ?_
    walk_at "go"
    rename_i r4 H4 r40 r41 e4 p4
    walk_at "go"
    have l2 : (cut w (some (r1 + r4)) none).length ≤ w.length := cut_le
    refine s_addS (hz (by simp; omega)) ?_
    exact k _ _ (by simp; omega) (plain_app (plain_app (plain_cut pw) pc) (plain_cut pw)) (e03.trans e4) p4
  · walk_at "go"
    have q1 : 602 / (w.length : Int) * (w.length : Int) ≤ 602 := Int.ediv_mul_le _ (by omega)
    have q0 : 0 ≤ 602 / (w.length : Int) := Int.ediv_nonneg (by omega) (by omega)
    generalize hq : 602 / (w.length : Int) = q at q0 q1 ⊢
    have q2 : q ≤ 602 := by
      have := Int.mul_le_mul_of_nonneg_left (show (1 : Int) ≤ (w.length : Int) by omega) q0
      omega
    have q3 : w.length * (q + 1).toNat ≤ 1300 := by
      have : ((w.length * (q + 1).toNat : Nat) : Int) ≤ 1300 := by
        rw [Int.natCast_mul, Int.toNat_of_nonneg (by omega), Int.mul_add, Int.mul_comm]
        omega
      omega
    refine s_mulS (by omega) (by omega) (by omega) ?_
    walk_at "go"
    rename_i r5 H5 r50 r51 e5 p5
    walk_at "go"
    have lr : (rep (q + 1).toNat w).length = w.length * (q + 1).toNat := rep_len _ _
    have l0 : (cut (rep (q + 1).toNat w) none (some (599 + r5))).length ≤ (rep (q + 1).toNat w).length := cut_le
    refine s_slS (hz (by omega)) ?_
    refine k (cut (rep (q + 1).toNat w) none (some (599 + r5))) _ (by omega) (plain_cut fun c hc => ?_) (e03.trans e5) p5
    unfold rep at hc
    simp only [List.mem_flatten, List.mem_replicate] at hc
    obtain ⟨l, ⟨_, rfl⟩, hc⟩ := hc
    exact pw c hc
theorem pure_law_spot05 (h : sp_law_spot05 K vs H Q E) : t_law_spot05 K (E1 Q) (start ["_law_pool_here", "_law_at", "_law_many", "_law_odd_here", "_law_way"] vs) H := by
  obtain ⟨a, rfl, hp, k⟩ := h
  show t_law_spot05 K (E1 Q) [some (.ref a), none, none, none, none] H
  unfold t_law_spot05
  walk_at "go"
  rename_i r1 H1 r10 r11 e1 p1 b H2 nb e2 hb r2 H3 r20 r21 e3 p3
  have hb3 : H3 b = some (.lst [.int 0, .int 1, .int 5, .int 600, .int 601, .int (-1), .int (10 ^ 30)]) := e3.get (fun z => p1.there (by rw [← List.mem_singleton.mp z]; exact nb)) hb
  have hm : ∃ j : Int, ([.int 0, .int 1, .int 5, .int 600, .int 601, .int (-1), .int (10 ^ 30)] : List V)[r2.toNat]? = some (.int j) ∧ j.natAbs ≤ 10 ^ 38 := by
    rcases (show r2 = 0 ∨ r2 = 1 ∨ r2 = 2 ∨ r2 = 3 ∨ r2 = 4 ∨ r2 = 5 ∨ r2 = 6 by omega) with rfl | rfl | rfl | rfl | rfl | rfl | rfl
    all_goals exact ⟨_, rfl, by decide +kernel⟩
  obtain ⟨j, hj, hjb⟩ := hm
  refine s_ixL (v := .int j) (SqL.of hb3) (atI_of r20 hj) ?_
  have e03 : Ex [a] H H3 := (e1.trans e2.wide).trans e3
  clear e1 e2 e3 hb hb3 nb hj p1
  generalize hat : r1 - 4 = t
  have ht : t.natAbs ≤ 10 ^ 38 := Nat.le_trans (show t.natAbs ≤ 10 by omega) (by decide)
  walk_at "go"
  refine u_odd p3 fun v H4 e4 p4 hv => ?_
  walk_at "go"
  rename_i way H5 w0 w1 e5 p5
  have x45 : ExN [a] H4 H5 := .of e5
  have hv5 := hv.ex e5
  have e05 := (e03.trans e4).trans e5
  clear e03 e4 e5 hv p3 p4 x45 hat
  obtain ⟨dv, hd⟩ := OddAt.val (K := K) hv5
  obtain ⟨d4, h4⟩ := OddAt.val4 (K := K) hv5
  have hel := OddAt.el (K := K) hv5
  have elm : ∀ {u : V} {G : Hp}, ExN [a] H5 G → ElI K [a] H5 u → ElI K [a] G u := fun e h => h.imp (fun z => z) fun ⟨n, h1, h2⟩ => ⟨n, h1, fun H2 e2 => h2 H2 (e.trans e2)⟩
  have fin : ∀ {v : V} {d : PyData} {G : Hp}, Ex [] H5 G → SpotAt K [a] G v ∧ ValD K [a] G v d → Q v G := fun {v d G} e h => k v d G (e05.trans e.wide) (p5.ex e (by simp)) h.1 h.2
  have na : ∀ {q : Addr} {G : Hp}, Ex [] H5 G → G q = none → q ∉ [a] := fun {q G} e hn z => (p5.ex e (by simp)).there (by rw [← List.mem_singleton.mp z]; exact hn)
  have sI : ∀ (G : Hp) (i : Int), i.natAbs ≤ 10 ^ 38 → SpotAt K [a] G (.int i) ∧ ValD K [a] G (.int i) (.int i) := fun G i hi => ⟨.int i, .int_ i hi⟩
  have xI : ∀ (i : Int) (H' : Hp), ExN [a] H5 H' → Dx K H' 4 (.int i) (.int i) := fun i _ _ => dx_scal scI
  refine s_2 (fun hb => ?_) (fun hb => ?_)
  · have hb := of_decide_eq_true hb
    walk_at "go"
    rename_i p H6 np e6 hp6 q H7 nq e7 hq
    have e57 := e6.trans e7
    have x57 : ExN [a] H5 H7 := .of0 e57
    rcases (show way = 0 ∨ way = 1 by omega) with rfl | rfl
    · exact s_ixL (SqL.of hq) rfl (fin e57 (sI _ _ ht))
    · exact s_ixL (SqL.of hq) rfl (fin e57 (spot_pair (na Ex.rfl np) (e7.get0 hp6) (.inl ⟨t, rfl⟩) (.inl ⟨j, rfl⟩) (fun H' e => xI t H' (x57.trans e)) fun H' e => xI j H' (x57.trans e)))
  walk_at "go"
  have hb := of_decide_eq_false hb
  refine s_2 (fun hb2 => ?_) (fun hb2 => ?_)
  · have hb2 := of_decide_eq_true hb2
    walk_at "go"
    rename_i p H6 np e6 hp6 q H7 nq e7 hq r H8 nr e8 hr s H9 ns e9 hs
    have e59 := ((e6.trans e7).trans e8).trans e9
    have x59 : ExN [a] H5 H9 := .of0 e59
    have o59 := fun (H' : Hp) (e : ExN [a] H9 H') => h4 H' (x59.trans e)
    rcases (show way = 2 ∨ way = 3 ∨ way = 4 by omega) with rfl | rfl | rfl
    · exact s_ixL (SqL.of hs) rfl (fin e59 (spot_pair (na Ex.rfl np) (((e7.trans e8).trans e9).get0 hp6) (elm x59 hel) (.inl ⟨1, rfl⟩) o59 fun H' e => xI 1 H' (x59.trans e)))
    · exact s_ixL (SqL.of hs) rfl (fin e59 (spot_pair (na e6 nq) ((e8.trans e9).get0 hq) (.inl ⟨t, rfl⟩) (elm x59 hel) (fun H' e => xI t H' (x59.trans e)) o59))
    · exact s_ixL (SqL.of hs) rfl (fin e59 (spot_pair (na (e6.trans e7) nr) (e9.get0 hr) (elm x59 hel) (elm x59 hel) o59 o59))
  walk_at "go"
  rename_i r3 H6 r30 r31 e6 p6
  have hb2 := of_decide_eq_false hb2
  have fin6 : ∀ {v : V} {d : PyData} {G : Hp}, Ex [] H6 G → SpotAt K [a] G v ∧ ValD K [a] G v d → Q v G := fun {v d G} e h => k v d G ((e05.trans e6).trans e.wide) (p6.ex e (by simp)) h.1 h.2
  have na6 : ∀ {q : Addr} {G : Hp}, Ex [] H6 G → G q = none → q ∉ [a] := fun {q G} e hn z => (p6.ex e (by simp)).there (by rw [← List.mem_singleton.mp z]; exact hn)
  refine s_2 (fun hb3 => ?_) (fun hb3 => ?_)
  · walk_at "go"
    rename_i p H7 np e7 hp7 q H8 nq e8 hq r H9 nr e9 hr s H10 ns e10 hs
    have e6z := ((e7.trans e8).trans e9).trans e10
    rcases (show way = 5 ∨ way = 6 ∨ way = 7 by omega) with rfl | rfl | rfl
    · have h0 := ((e8.trans e9).trans e10).get0 hp7
      have n0 := na6 Ex.rfl np
      have hk : ∀ H', ExN [a] H10 H' → H' p = some (.lst [.int t, .int 1]) := fun H' e => e _ _ n0 h0 (fun _ z => by cases z)
      refine s_ixL (SqL.of hs) rfl (fin6 (d := .list [.int t, .int 1]) e6z ⟨.no _ fun H' e => ⟨"list", .lst (hk H' e), by decide, .inl (by decide)⟩, .of (n := "list") (by decide) (by decide) fun H' e => ⟨dx_lst (hk H' e) (by simp) (.cons (dx_scal scI) (.cons (dx_scal scI) .nil)), .lst (hk H' e)⟩⟩)
    · have h0 := (e9.trans e10).get0 hq
      have n0 := na6 e7 nq
      have hk : ∀ H', ExN [a] H10 H' → SqT K H' q [.int t] := fun H' e => SqT.of (e _ _ n0 h0 (fun _ z => by cases z))
      refine s_ixL (SqL.of hs) rfl (fin6 (d := .tuple [.int t]) e6z ⟨.no _ fun H' e => ⟨"tuple", .tup (hk H' e), by decide, .inr ⟨q, _, rfl, hk H' e, by simp⟩⟩, .of (n := "tuple") (by decide) (by decide) fun H' e => ⟨dx_tup (hk H' e) (by simp) (.cons (dx_scal scI) .nil), .tup (hk H' e)⟩⟩)
    · have h0 := e10.get0 hr
      have n0 := na6 (e7.trans e8) nr
      have hk : ∀ H', ExN [a] H10 H' → SqT K H' r [.int t, .int 1, .int 1] := fun H' e => SqT.of (e _ _ n0 h0 (fun _ z => by cases z))
      refine s_ixL (SqL.of hs) rfl (fin6 (d := .tuple [.int t, .int 1, .int 1]) e6z ⟨.no _ fun H' e => ⟨"tuple", .tup (hk H' e), by decide, .inr ⟨r, _, rfl, hk H' e, by simp⟩⟩, .of (n := "tuple") (by decide) (by decide) fun H' e => ⟨dx_tup (hk H' e) (by simp) (.cons (dx_scal scI) (.cons (dx_scal scI) (.cons (dx_scal scI) .nil))), .tup (hk H' e)⟩⟩)
  · walk_at "go"
    exact fin6 Ex.rfl ⟨(OddAt.spot (K := K) hv5).ex (.of e6), hd.ex (.of e6)⟩
end
end WB
namespace WB
open PySem PySem.Spec PyProof.Rows L2
theorem l05f_116_117_112_108_101 : ("tuple" : Str) = S [116, 117, 112, 108, 101] := by decide +kernel
theorem l05f_108_105_115_116 : ("list" : Str) = S [108, 105, 115, 116] := by decide +kernel
theorem l05f_100_105_99_116 : ("dict" : Str) = S [100, 105, 99, 116] := by decide +kernel
theorem l05f_116_114_117_116_104 : ("truth" : Str) = S [116, 114, 117, 116, 104] := by decide +kernel
theorem l05f_112_108_97_105_110 : ("plain" : Str) = S [112, 108, 97, 105, 110] := by decide +kernel
local macro_rules | `(tactic| walk_at "lit") => `(tactic| first | exact l05f_116_117_112_108_101 | exact l05f_108_105_115_116 | exact l05f_100_105_99_116 | exact l05f_116_114_117_116_104 | exact l05f_112_108_97_105_110)
local macro_rules | `(tactic| walk_at "lit") => `(tactic| first | exact lit_abc | exact lit_empty)
local macro_rules | `(tactic| walk_at "nm") => `(tactic| focus first | exact List.not_mem_nil | (simp only [List.mem_singleton]; first | assumption | (exact Ne.symm (by assumption)) | (intro hz; subst hz; simp_all; done)))
local macro_rules | `(tactic| walk_at "hp") => `(tactic| first | assumption | (apply Ex.get0 (by assumption); walk_at "hp") | (apply Ex.get (by assumption); (walk_at "nm"); (walk_at "hp")))
local macro_rules | `(tactic| walk_at "sq") => `(tactic| first | assumption | (apply SqL.of; walk_at "hp") | (apply Ex.sqL (by assumption); (walk_at "nm"); (walk_at "sq")))
local macro_rules | `(tactic| walk_at "sqt") => `(tactic| first | assumption | (apply SqT.of; walk_at "hp") | (apply Ex.sqT (by assumption); (walk_at "nm"); (walk_at "sqt")))
local macro_rules | `(tactic| walk_at "sz") => `(tactic| focus ((with_reducible refine Nat.le_trans (m := 100000) ?_ (by decide)); first | omega | (simp; done) | (simp; omega)))
local macro_rules | `(tactic| walk_at "mul") => `(tactic| first | exact Or.inr ⟨by omega, by omega⟩ | exact Or.inl ⟨by omega, by omega⟩)
local macro_rules | `(tactic| walk_at "pool") => `(tactic| first | assumption | (apply PoolAt.ex (by assumption); (walk_at "nm"); (walk_at "pool")))
local macro_rules | `(tactic| walk_at "ring") => `(tactic| first | assumption | (apply RingAt.ex (by assumption); (walk_at "nm"); (walk_at "ring")))
local macro_rules | `(tactic| walk_at "st") => `(tactic| first
  | with_reducible refine s_seq ?_
  | with_reducible refine s_asg ?_
  | with_reducible refine s_gName ?_
  | with_reducible refine s_ret ?_
  | with_reducible refine s_ifS ?_
  | with_reducible refine s_next ?_
  | with_reducible refine s_op ?_
  | ((with_reducible apply s_var); exact rfl)
  | ((with_reducible apply s_cS); (walk_at "lit"))
  | with_reducible refine s_c ?_
  | with_reducible refine s_cb ?_
  | with_reducible refine s_cons ?_
  | with_reducible refine s_nil ?_
  | with_reducible refine s_un ?_
  | with_reducible refine s_call ?_
  | with_reducible refine s_test ?_
  | with_reducible refine s_tB ?_
  | with_reducible refine s_blQ ?_
  | with_reducible refine s_not ?_
  | with_reducible refine s_and ?_
  | with_reducible refine s_or ?_
  | with_reducible refine s_andV ?_
  | with_reducible refine s_orV ?_
  | with_reducible refine s_notV ?_
  | with_reducible refine s_ifE ?_
  | with_reducible refine s_chain ?_
  | ((with_reducible refine s_T ?_ ?_); (with_reducible exact rfl))
  | with_reducible refine s_nT ?_
  | with_reducible refine s_nF ?_
  | ((with_reducible refine s_F ?_ ?_); (with_reducible exact rfl))
  | ((with_reducible refine s_T ?_ ?_); assumption)
  | ((with_reducible refine s_F ?_ ?_); assumption)
  | ((with_reducible refine s_nB ?_ ?_); assumption)
  | ((with_reducible refine s_nA ?_ ?_); assumption)
  | ((with_reducible refine s_Td ?_ ?_); omega)
  | ((with_reducible refine s_Fd ?_ ?_); omega)
  | ((with_reducible refine s_nTd ?_ ?_); omega)
  | ((with_reducible refine s_nFd ?_ ?_); omega)
  | with_reducible refine s_sfld ?_
  | with_reducible refine s_addI ?_
  | with_reducible refine s_subI ?_
  | ((with_reducible refine s_mulI ?_ ?_); (walk_at "mul"))
  | ((with_reducible refine s_divI ?_ ?_); exact ⟨by omega, by omega⟩)
  | ((with_reducible refine s_modI ?_ ?_); omega)
  | ((with_reducible refine s_powI ?_ ?_); exact ⟨by decide, by decide, by decide⟩)
  | with_reducible refine s_ltI ?_
  | with_reducible refine s_leI ?_
  | with_reducible refine s_gtI ?_
  | with_reducible refine s_geI ?_
  | with_reducible refine s_negI ?_
  | with_reducible refine s_absI ?_
  | with_reducible refine s_intI ?_
  | with_reducible refine s_min2 ?_
  | with_reducible refine s_max2 ?_
  | with_reducible refine s_eqI ?_
  | with_reducible refine s_neI ?_
  | with_reducible refine s_eqS ?_
  | with_reducible refine s_neS ?_
  | with_reducible refine s_inSg ?_
  | with_reducible refine s_notInSg ?_
  | ((with_reducible refine s_addS ?_ ?_); (walk_at "sz"))
  | ((with_reducible refine s_lenS ?_ ?_); (walk_at "sz"))
  | ((with_reducible apply s_lenL); (walk_at "sq"))
  | ((with_reducible apply s_lenT); (walk_at "sqt"))
  | ((with_reducible apply s_ixL); (walk_at "sq"); exact rfl)
  | ((with_reducible apply s_ixT); (walk_at "sqt"); exact rfl)
  | with_reducible refine s_gSub ?_
  | ((with_reducible apply s_setL); (walk_at "hp"); (exact rfl); (intro _ _ _))
  | ((with_reducible refine s_alloc ?_ ?_); (walk_at "sz"); (intro _ _ _ _ _))
  | ((with_reducible refine s_divmod ?_ ?_); (exact ⟨by omega, PyProof.noPylong_small (by omega)⟩); (intro _ _ _ _ _))
  | ((with_reducible apply s_gTup); (walk_at "sqt"); (exact rfl))
  | ((with_reducible apply s_gLst); (walk_at "sq"); (exact rfl))
  | with_reducible refine s_gCons ?_
  | with_reducible refine s_gNil ?_
  | with_reducible refine s_lc ?_
  | ((with_reducible apply s_cat); (walk_at "hp"); (walk_at "hp"); (walk_at "sz"); (intro _ _ _ _ _))
  | ((with_reducible apply s_slL); (walk_at "sq"); (intro _ _ _ _ _))
  | with_reducible refine s_for ?_
  | with_reducible refine s_rng1 ?_
  | ((with_reducible refine s_rng1i ?_ ?_); (constructor <;> omega))
  | with_reducible refine s_rng2 ?_
  | ((with_reducible refine s_rng2i ?_ ?_); (refine ⟨?_, ?_, ?_, ?_⟩ <;> omega))
  | with_reducible refine s_iStr ?_
  | with_reducible refine s_iStrS ?_
  | with_reducible refine s_iList ?_
  | ((with_reducible apply s_iListA); (walk_at "sq"))
  | with_reducible refine s_iTup ?_
  | ((with_reducible apply s_iTupA); (walk_at "sqt"))
  | with_reducible refine s_sl ?_
  | with_reducible refine s_noPart ?_
  | with_reducible refine s_part ?_
  | with_reducible refine s_int1 ?_
  | ((with_reducible refine s_slS ?_ ?_); (walk_at "sz"))
  | with_reducible refine s_tup ?_
  | with_reducible refine s_lst ?_
  | with_reducible refine s_par ?_
  | with_reducible refine s_pair ?_
  | with_reducible refine s_M1 ?_
  | with_reducible refine s_isStr ?_
  | with_reducible refine s_revS ?_
  | ((with_reducible refine s_revS1 ?_ ?_); (walk_at "sz"))
  | with_reducible refine s_fldE ?_
  | with_reducible refine s_propE ?_
  | ((with_reducible refine u_draw ?_ ?_ ?_ ?_); omega; omega; (walk_at "pool"); (intro _ _ _ _ _ _))
  | ((with_reducible refine u_pool ?_); (intro _ _ _ _ _))
  | with_reducible refine u_is_integer ?_
  | with_reducible refine s_isiII ?_
  | with_reducible refine s_isiIB ?_
  | with_reducible refine s_isiSS ?_
  | ((with_reducible apply u_fldRing); assumption; (walk_at "ring"))
  | ((with_reducible apply u_textP); (walk_at "ring"))
  | ((with_reducible apply u_strRing); (walk_at "ring"))
  | ((with_reducible apply u_eqRing); (walk_at "ring"); (walk_at "ring"))
  | ((with_reducible apply u_isiRing); assumption; (walk_at "ring"))
  | ((with_reducible refine u_is_word ?_ ?_); omega; (intro _ _))
  | ((with_reducible refine u_turnings ?_ ?_); omega; (intro _ _ _ _ _))
  | with_reducible refine s_makeE ?_
  | with_reducible refine s_methE ?_)
local macro_rules | `(tactic| walk_at "go") => `(tactic| repeat (walk_at "st"))
local macro_rules | `(tactic| walk_at "exs") => `(tactic| first | exact Ex.rfl | assumption | (apply Ex.snoc (by assumption); walk_at "exs") | (apply Ex.snocW (by assumption); walk_at "exs"))
local macro_rules | `(tactic| walk_at "kind") => `(tactic| first | assumption | (apply KindAt.ex0 (by assumption); (walk_at "kind")) | (apply KindAt.exP (by assumption) (by assumption); (walk_at "kind")))
local macro_rules | `(tactic| walk_at "st") => `(tactic| first
  | with_reducible refine s_lenSet ?_
  | with_reducible refine s_drop ?_
  | with_reducible refine s_bm ?_
  | with_reducible refine s_notN ?_
  | with_reducible refine s_isN ?_
  | ((with_reducible apply s_tyL); (walk_at "hp"))
  | with_reducible refine s_enumT ?_
  | ((with_reducible apply s_enumTA); (walk_at "sqt"))
  | with_reducible refine s_lc2 ?_)
def t_law_faceR (K : PySem.W.Frag) (n : Nat) : TS :=
  (tSeq (tIfS (tB (tCB (rIsi K) (tCons (tVar 0) (tCons (tC (.ty "tuple")) tNil)))) (tRet (tOp rCat (tLst (tCons (tC (.str "tuple")) tNil)) (tLc (iTup K (tVar 0)) (gName 1) tYes (tCall (sp_law_faceR K n) [] E0 (tCons (tVar 1) tNil)) [1]))) tNext)
  (tSeq (tIfS (tB (tCB (rIsi K) (tCons (tVar 0) (tCons (tC (.ty "list")) tNil)))) (tRet (tOp rCat (tLst (tCons (tC (.str "list")) tNil)) (tLc (iList K (tVar 0)) (gName 1) tYes (tCall (sp_law_faceR K n) [] E0 (tCons (tVar 1) tNil)) [1]))) tNext)
  (tSeq (tIfS (tB (tCB (rIsi K) (tCons (tVar 0) (tCons (tC (.ty "dict")) tNil)))) (tRet (tOp rCat (tLst (tCons (tC (.str "dict")) tNil)) (tLockE (tLc (iKeys (tVar 0)) (gName 2) tYes (tLst (tCons (tCall (sp_law_faceR K n) [] E0 (tCons (tVar 2) tNil)) (tCons (tCall (sp_law_faceR K n) [] E0 (tCons (tDGet (tVar 0) (tVar 2)) tNil)) tNil))) [2])))) tNext)
  (tRet (tLst (tCons (tIf (tB (tCB (rIsi K) (tCons (tVar 0) (tCons (tC (.ty "bool")) tNil)))) (tC (.str "truth")) (tC (.str "plain"))) (tCons (tVar 0) tNil)))))))
section
variable {K : PySem.W.Frag} {vs : List V} {H : Hp} {Q : VK} {E : XK}
theorem fr_pairX {F : Addr → Prop} {n : Nat} {r : Addr} {v : V} {d : PyData} (hs : Scal v d) (f : F r) (h : H r = some (.lst [vS (tagOf d), v])) : Fr F H (2 * n + 1) (.ref r) (faceX n d) := by
  rw [face_scalX hs]
  have ht := tag_plain hs
  refine Fr.le (n := 1) (by omega) (.inr ⟨r, _, _, rfl, rfl, f, h, rfl, fun i x e h1 h2 => ?_⟩)
  match i, h1, h2 with
  | 0, h1, h2 => cases h1; cases h2; exact .inr (.inr (.inr ⟨_, ht, rfl, rfl⟩))
  | 1, h1, h2 => cases h1; cases h2; exact hs
theorem fr_partsX {F : Addr → Prop} {m : Nat} {r : Addr} {t : List Nat} {ys : List V} {ds : List PyData} {g : PyData → PyData} (ht : plain t) (f : F r) (h : H r = some (.lst ([vS t] ++ ys))) (hl : ys.length = ds.length) (hf : ∀ (i : Nat) y e, ys[i]? = some y → ds[i]? = some e → Fr F H (m + 1) y (g e)) :
    Fr F H (m + 1 + 1) (.ref r) (.list (dS t :: ds.map g)) := by
  refine .inr ⟨r, _, _, rfl, rfl, f, h, by simp [hl], fun i x e h1 h2 => ?_⟩
  match i, h1, h2 with
  | 0, h1, h2 => cases h1; cases h2; exact .inl (.inr (.inr (.inr ⟨_, ht, rfl, rfl⟩)))
  | i + 1, h1, h2 =>
    rw [List.getElem?_cons_succ, List.getElem?_map] at h2
    obtain ⟨e', h3, rfl⟩ := Option.map_eq_some_iff.mp h2
    exact hf i x e' h1 h3
theorem lc_facesR {J : It} {G : Hp → Prop} {xs : List V} {ds : List PyData} {n j : Nat} {σ : St} {E : XK} (w : Walk J xs.length G (YAt xs)) (hG : ∀ H1, Ex [] H H1 → G H1) (hn : xs.length ≤ 1000) (hj : j < σ.length) (hl : ds.length = xs.length)
    (hd : ∀ (i : Nat) x e, xs[i]? = some x → ds[i]? = some e → Dx K H n x e)
    (k : ∀ D H' ys, H D = none → Ex [] H H' → H' D = some (.lst ys) → ys.length = ds.length → (∀ (i : Nat) y e, ys[i]? = some y → ds[i]? = some e → Fr (fun a => H a = none ∧ a ≠ D) H' (2 * n + 1) y (faceX n e)) → Q (.ref D) H') :
    LcW J (gName j) tYes (tCall (sp_law_faceR K (n + 1)) [] E (tCons (tVar j) tNil)) [j] σ H Q := by
  intro D hD
  refine lc_it w (fun i H1 => Ex [] H H1 ∧ ∃ ys, H1 D = some (.lst ys) ∧ ys.length = i ∧ ∀ (m : Nat) y e, ys[m]? = some y → ds[m]? = some e → Fr (fun a => H a = none ∧ a ≠ D) H1 (2 * n + 1) y (faceX n e)) ⟨Ex.new hD, [], upd_same, rfl, by simp⟩ (fun i H1 _ h => hG H1 h.1) ?_ ?_
  · rintro i x H1 H2 hi ⟨e, ys, hy, hyl, hf⟩ ⟨rfl, hx⟩
    refine ⟨wipe1 _ _ _, ?_⟩
    refine s_yes ?_
    refine s_T rfl ?_
    refine s_call ?_
    refine s_cons ?_
    refine s_var (v := x) (by rw [List.getElem?_set_self (by simp [wipe]; exact hj)]) ?_
    refine s_nil ?_
    have hid : i < ds.length := by omega
    refine faceR_of (u_faceX (d := ds[i]) (Dx.ex e n x _ (hd i x _ hx (List.getElem?_eq_getElem hid))) fun r H5 hr e5 hfr => ?_)
    have hDn : H2 D ≠ none := by rw [hy]; simp
    refine ⟨ys, e5.get0 hy, by rw [hyl]; exact Nat.lt_of_lt_of_le hi (Nat.le_trans hn (by decide)), ?_, ys ++ [.ref r], upd_same, by simp [hyl], ?_⟩
    · intro b o nb hb
      rw [upd_ne (ne_of_none hb hD)]
      exact e5 b o nb (e b o nb hb)
    · intro m y e' hm he
      by_cases hmi : m < i
      · rw [List.getElem?_append_left (by omega)] at hm
        refine Fr.mono (fun a h => h) (fun a zs fa ha => ?_) _ _ _ (hf m y e' hm he)
        rw [upd_ne fa.2]
        exact e5.get0 ha
      · have hmi' : m = i := by
          have := (List.getElem?_eq_some_iff.mp hm).1
          simp at this
          omega
        subst hmi'
        rw [List.getElem?_append_right (by omega)] at hm
        have : y = .ref r := by
          simp [hyl] at hm
          exact hm.symm
        subst this
        rw [List.getElem?_eq_getElem hid] at he
        cases he
        refine Fr.mono (fun a h => ⟨e.free h, fun z => hDn (z ▸ h)⟩) (fun a zs fa ha => ?_) _ _ _ hfr
        rw [upd_ne (show a ≠ D from fun z => hDn (z ▸ fa))]
        exact ha
  · rintro H1 ⟨e, ys, hy, hyl, hf⟩
    exact k D H1 ys hD e hy (by omega) hf
theorem pure_law_faceR (F12 : Own05 K) {n : Nat} (h : sp_law_faceR K (n + 1) vs H Q E) : t_law_faceR K n (E1 Q) (start ["_law_thing", "_law_part", "_law_key"] vs) H := by
  obtain ⟨v, rfl, ⟨d, hd, k⟩ | ⟨a, w, rfl, hw, k⟩⟩ := h
  case inr =>
    obtain ⟨dx, hx⟩ := hw
    have nk : ∀ {n : String} {Q' : VK}, n ∈ (["tuple", "list", "dict", "bool"] : List String) → Q' (.bl false) H → rIsi K [.ref a, .ty n] H Q' := fun {n Q'} hn q => ⟨_, _, _, _, _, rfl, .ty _, F12.rk.ty H a dx _ hx, F12.kt n hn, q⟩
    show t_law_faceR K n (E1 Q) [some (.ref a), none, none] H
    unfold t_law_faceR
    walk_at "go"
    refine nk (by decide) ?_
    walk_at "go"
    refine nk (by decide) ?_
    walk_at "go"
    refine nk (by decide) ?_
    walk_at "go"
    refine nk (by decide) ?_
    walk_at "go"
    rename_i r H' nr e h
    exact k r H' nr e h
  show t_law_faceR K n (E1 Q) [some v, none, none] H
  have scal : Scal v d → t_law_faceR K n (E1 Q) [some v, none, none] H := by
    intro hs
    have hs' := hs
    unfold t_law_faceR
    rcases hs with ⟨rfl, rfl⟩ | ⟨b, rfl, rfl⟩ | ⟨i, rfl, rfl⟩ | ⟨l, hl, rfl, rfl⟩
    · walk_at "go"
      refine s_isiK Kd.non (b := false) (by decide +kernel) ?_
      walk_at "go"
      refine s_isiK Kd.non (b := false) (by decide +kernel) ?_
      walk_at "go"
      refine s_isiK Kd.non (b := false) (by decide +kernel) ?_
      walk_at "go"
      refine s_isiK Kd.non (b := false) (by decide +kernel) ?_
      walk_at "go"
      rename_i r H' nr e h
      exact k r H' nr e (fr_pairX hs' nr h)
    · walk_at "go"
      refine s_isiK Kd.bl (b := false) (by decide +kernel) ?_
      walk_at "go"
      refine s_isiK Kd.bl (b := false) (by decide +kernel) ?_
      walk_at "go"
      refine s_isiK Kd.bl (b := false) (by decide +kernel) ?_
      walk_at "go"
      refine s_isiK Kd.bl (b := true) (by decide +kernel) ?_
      walk_at "go"
      rename_i r H' nr e h
      exact k r H' nr e (fr_pairX hs' nr h)
    · walk_at "go"
      refine s_isiK Kd.int (b := false) (by decide +kernel) ?_
      walk_at "go"
      refine s_isiK Kd.int (b := false) (by decide +kernel) ?_
      walk_at "go"
      refine s_isiK Kd.int (b := false) (by decide +kernel) ?_
      walk_at "go"
      rename_i r H' nr e h
      exact k r H' nr e (fr_pairX hs' nr h)
    · walk_at "go"
      refine s_isiK Kd.str (b := false) (by decide +kernel) ?_
      walk_at "go"
      refine s_isiK Kd.str (b := false) (by decide +kernel) ?_
      walk_at "go"
      refine s_isiK Kd.str (b := false) (by decide +kernel) ?_
      walk_at "go"
      refine s_isiK Kd.str (b := false) (by decide +kernel) ?_
      walk_at "go"
      rename_i r H' nr e h
      exact k r H' nr e (fr_pairX hs' nr h)
  cases n with
  | zero => exact scal hd
  | succ n =>
    rcases hd with hd | ⟨a, xs, ds, rfl, rfl, h1, hn, hl, h2⟩ | ⟨a, xs, ds, rfl, rfl, h1, hn, hl, h2⟩ | ⟨a, rfl, rfl, h1⟩ | ⟨a, y, e0, rfl, rfl, h1, h2⟩
    · exact scal hd
    · unfold t_law_faceR
      walk_at "go"
      refine s_isiK (Kd.tup h1) (b := true) (by decide +kernel) ?_
      walk_at "go"
      rename_i q1 H1 n1 e1 h3
      refine lc_facesR (ds := ds) (n := n) (walk_tup (xs := xs)) (fun H2 e2 => (e1.trans e2).sqT (by simp) h1) hn (by simp) hl (fun i x e hx he => Dx.ex e1 _ _ _ (h2 i x e hx he)) fun D H2 ys nD e2 hD hyl hf => ?_
      walk_at "go"
      rename_i p H3 np e3 hp
      have fr : H p = none := e1.free (e2.free np)
      refine k p H3 fr ((e1.trans e2).trans e3) (Fr.le (n := 2 * n + 2) (by omega) (fr_partsX plain_tags.1 fr hp hyl fun i y e hy he => ?_))
      exact Fr.mono (fun a h => e1.free h.1) (fun a zs _ ha => e3.get0 ha) _ _ _ (hf i y e hy he)
    · unfold t_law_faceR
      walk_at "go"
      refine s_isiK (Kd.lst h1) (b := false) (by decide +kernel) ?_
      walk_at "go"
      refine s_isiK (Kd.lst h1) (b := true) (by decide +kernel) ?_
      walk_at "go"
      rename_i q1 H1 n1 e1 h3
      refine lc_facesR (ds := ds) (n := n) (walk_list (xs := xs)) (fun H2 e2 => SqL.of ((e1.trans e2).get0 h1)) hn (by simp) hl (fun i x e hx he => Dx.ex e1 _ _ _ (h2 i x e hx he)) fun D H2 ys nD e2 hD hyl hf => ?_
      walk_at "go"
      rename_i p H3 np e3 hp
      have fr : H p = none := e1.free (e2.free np)
      refine k p H3 fr ((e1.trans e2).trans e3) (Fr.le (n := 2 * n + 2) (by omega) (fr_partsX plain_tags.2.1 fr hp hyl fun i y e hy he => ?_))
      exact Fr.mono (fun a h => e1.free h.1) (fun a zs _ ha => e3.get0 ha) _ _ _ (hf i y e hy he)
    · unfold t_law_faceR
      walk_at "go"
      refine s_isiK (Kd.dict h1) (b := false) (by decide +kernel) ?_
      walk_at "go"
      refine s_isiK (Kd.dict h1) (b := false) (by decide +kernel) ?_
      walk_at "go"
      refine s_isiK (Kd.dict h1) (b := true) (by decide +kernel) ?_
      walk_at "go"
      rename_i q1 H1 n1 e1 h3
      have ha := e1.get0 h1
      refine s_lockE ha fun od => ?_
      refine s_lc ?_
      refine s_iKeys ?_
      refine s_var rfl ?_
      refine ⟨a, od, rfl, .inl ⟨[], upd_same, ?_⟩⟩
      refine lc_none upd_same fun D hD => ?_
      have na : a ≠ D := fun z => by
        rw [z, upd_same] at hD
        cases hD
      have hD1 : H1 D = none := by
        rw [upd_ne (Ne.symm na)] at hD
        exact hD
      refine ⟨by rw [upd_ne na, upd_same], ?_⟩
      have e2 : Ex [] H1 (upd (upd (upd H1 a (.frz od (.dK []))) D (.lst [])) a (.dK [])) := lock_ex ha (Ex.new hD)
      have hDl : upd (upd (upd H1 a (.frz od (.dK []))) D (.lst [])) a (.dK []) D = some (.lst []) := by rw [upd_ne (Ne.symm na), upd_same]
      generalize upd (upd (upd H1 a (.frz od (.dK []))) D (.lst [])) a (.dK []) = H2 at e2 hDl ⊢
      walk_at "go"
      rename_i p H3 np e3 hp
      have fr : H p = none := e1.free (e2.free np)
      exact k p H3 fr ((e1.trans e2).trans e3) (Fr.le (n := 0 + 1 + 1) (by omega) (fr_partsX (g := fun e => e) (ds := []) plain_dict fr hp rfl (by simp)))
    · unfold t_law_faceR
      walk_at "go"
      refine s_isiK (Kd.dict h1) (b := false) (by decide +kernel) ?_
      walk_at "go"
      refine s_isiK (Kd.dict h1) (b := false) (by decide +kernel) ?_
      walk_at "go"
      refine s_isiK (Kd.dict h1) (b := true) (by decide +kernel) ?_
      walk_at "go"
      rename_i q1 H1 n1 e1 h3
      have ha := e1.get0 h1
      refine s_lockE ha fun od => ?_
      refine s_lc ?_
      refine s_iKeys ?_
      refine s_var rfl ?_
      refine ⟨a, od, rfl, .inl ⟨[(kA, y)], upd_same, ?_⟩⟩
      refine lc_one upd_same fun D hD C kC => ?_
      have na : a ≠ D := fun z => by
        rw [z, upd_same] at hD
        cases hD
      have hD1 : H1 D = none := by
        rw [upd_ne (Ne.symm na)] at hD
        exact hD
      have hDa : upd (upd H1 a (.frz od (.dK [(kA, y)]))) D (.lst []) a = some (.frz od (.dK [(kA, y)])) := by rw [upd_ne na, upd_same]
      have hDl : upd (upd H1 a (.frz od (.dK [(kA, y)]))) D (.lst []) D = some (.lst []) := upd_same
      have hy : Dd K (upd (upd H1 a (.frz od (.dK [(kA, y)]))) D (.lst [])) n y e0 := Dd.ex (Ex.new hD) _ _ _ (Dd.lock ha _ _ _ (Dd.ex e1 _ _ _ h2))
      have eF : Ex [] (upd H1 a (.frz od (.dK [(kA, y)]))) (upd (upd H1 a (.frz od (.dK [(kA, y)]))) D (.lst [])) := Ex.new hD
      generalize upd (upd H1 a (.frz od (.dK [(kA, y)]))) D (.lst []) = H2 at hDa hDl hy eF ⊢
      walk_at "go"
      refine faceR_of (u_faceX (d := dS [97]) (Dd.dx _ _ _ ?_) fun r1 H3 nr1 e3 f1 => ?_)
      · cases n with
        | zero => exact .inr (.inr (.inr ⟨[97], plain_a, rfl, rfl⟩))
        | succ n => exact .inl (.inr (.inr (.inr ⟨[97], plain_a, rfl, rfl⟩)))
      walk_at "go"
      refine s_var rfl ?_
      refine s_var rfl ?_
      refine ⟨a, y, rfl, .inl ⟨[(kA, y)], kA, .inr ⟨od, e3.get0 hDa⟩, rfl, rfl⟩, ?_⟩
      walk_at "go"
      refine faceR_of (u_faceX (d := e0) (Dx.ex e3 _ _ _ (Dd.dx _ _ _ hy)) fun r2 H4 nr2 e4 f2 => ?_)
      walk_at "go"
      rename_i r3 H5 nr3 e5 hr3
      have eD : Ex [] H2 H5 := (e3.trans e4).trans e5
      refine kC _ _ (eD.get0 hDl) (eD.get0 hDa) ?_
      have nD : H2 D ≠ none := by rw [hDl]; simp
      have n3 : r3 ≠ D := fun z => nD (z ▸ (e3.trans e4).free nr3)
      have e6 : Ex [] H1 (upd (upd H5 D (.lst [.ref r3])) a (.dK [(kA, y)])) := by
        refine lock_ex (f := .frz od (.dK [(kA, y)])) ha ?_
        intro b o nb hb
        rw [upd_ne (ne_of_none hb hD)]
        exact eD b o nb (eF b o nb hb)
      refine ⟨by rw [upd_ne na]; exact eD.get0 hDa, ?_⟩
      have nDa : D ≠ a := Ne.symm na
      have hD6 : upd (upd H5 D (.lst [.ref r3])) a (.dK [(kA, y)]) D = some (.lst [.ref r3]) := by rw [upd_ne nDa, upd_same]
      have keep : ∀ c zs, H2 c = none → H5 c = some (.lst zs) → upd (upd H5 D (.lst [.ref r3])) a (.dK [(kA, y)]) c = some (.lst zs) := fun c zs hc h5 => by
        have c1 : c ≠ a := fun z => by rw [z, hDa] at hc; cases hc
        have c2 : c ≠ D := fun z => nD (by rw [← z]; exact hc)
        rw [upd_ne c1, upd_ne c2]
        exact h5
      have h13 : ∀ c, H2 c = none → H c = none := fun c hc => by
        have h' := eF.free hc
        by_cases hca : c = a
        · rw [hca, upd_same] at h'
          cases h'
        · rw [upd_ne hca] at h'
          exact e1.free h'
      have hr3' := keep r3 _ ((e3.trans e4).free nr3) hr3
      have g1 := Fr.mono (F' := fun c => H2 c = none) (fun c h => h) (fun c zs hc h => keep c zs hc (e5.get0 (e4.get0 h))) _ _ _ f1
      have g2 := Fr.mono (F' := fun c => H2 c = none) (fun c h => e3.free h) (fun c zs hc h => keep c zs (e3.free hc) (e5.get0 h)) _ _ _ f2
      generalize upd (upd H5 D (.lst [.ref r3])) a (.dK [(kA, y)]) = H6 at e6 hD6 hr3' g1 g2 ⊢
      walk_at "go"
      rename_i p H7 np e7 hp
      have fr : H p = none := e1.free (e6.free np)
      refine k p H7 fr ((e1.trans e6).trans e7) ?_
      refine fr_partsX (m := 2 * n + 1) (g := fun z => z) (ds := [.list [faceX n (dS [97]), faceX n e0]]) plain_dict fr hp rfl fun i z w h5 h6 => ?_
      match i, h5, h6 with
      | 0, h5, h6 =>
        cases h5; cases h6
        refine .inr ⟨r3, _, _, rfl, rfl, h13 _ ((e3.trans e4).free nr3), e7.get0 hr3', rfl, fun j z w h8 h9 => ?_⟩
        match j, h8, h9 with
        | 0, h8, h9 => cases h8; cases h9; exact Fr.mono (fun c h => h13 c h) (fun c zs _ h => e7.get0 h) _ _ _ g1
        | 1, h8, h9 => cases h8; cases h9; exact Fr.mono (fun c h => h13 c h) (fun c zs _ h => e7.get0 h) _ _ _ g2
end
end WB
namespace WB
open PySem PySem.Spec PyProof.Rows L2 LamX
theorem l05d_110_111_116_104_105_110_103 : ("nothing" : Str) = S [110, 111, 116, 104, 105, 110, 103] := by decide +kernel
theorem l05d_119_111_114_100 : ("word" : Str) = S [119, 111, 114, 100] := by decide +kernel
theorem l05d_114_105_110_103 : ("ring" : Str) = S [114, 105, 110, 103] := by decide +kernel
local macro_rules | `(tactic| walk_at "lit") => `(tactic| first | exact l05d_110_111_116_104_105_110_103 | exact l05d_119_111_114_100 | exact l05d_114_105_110_103)
local macro_rules | `(tactic| walk_at "lit") => `(tactic| first | exact lit_abc | exact lit_empty)
local macro_rules | `(tactic| walk_at "nm") => `(tactic| focus first | exact List.not_mem_nil | (simp only [List.mem_singleton]; first | assumption | (exact Ne.symm (by assumption)) | (intro hz; subst hz; simp_all; done)))
local macro_rules | `(tactic| walk_at "hp") => `(tactic| first | assumption | (apply Ex.get0 (by assumption); walk_at "hp") | (apply Ex.get (by assumption); (walk_at "nm"); (walk_at "hp")))
local macro_rules | `(tactic| walk_at "sq") => `(tactic| first | assumption | (apply SqL.of; walk_at "hp") | (apply Ex.sqL (by assumption); (walk_at "nm"); (walk_at "sq")))
local macro_rules | `(tactic| walk_at "sqt") => `(tactic| first | assumption | (apply SqT.of; walk_at "hp") | (apply Ex.sqT (by assumption); (walk_at "nm"); (walk_at "sqt")))
local macro_rules | `(tactic| walk_at "sz") => `(tactic| focus ((with_reducible refine Nat.le_trans (m := 100000) ?_ (by decide)); first | omega | (simp; done) | (simp; omega)))
local macro_rules | `(tactic| walk_at "mul") => `(tactic| first | exact Or.inr ⟨by omega, by omega⟩ | exact Or.inl ⟨by omega, by omega⟩)
local macro_rules | `(tactic| walk_at "pool") => `(tactic| first | assumption | (apply PoolAt.ex (by assumption); (walk_at "nm"); (walk_at "pool")))
local macro_rules | `(tactic| walk_at "ring") => `(tactic| first | assumption | (apply RingAt.ex (by assumption); (walk_at "nm"); (walk_at "ring")))
local macro_rules | `(tactic| walk_at "st") => `(tactic| first
  | with_reducible refine s_seq ?_
  | with_reducible refine s_asg ?_
  | with_reducible refine s_gName ?_
  | with_reducible refine s_ret ?_
  | with_reducible refine s_ifS ?_
  | with_reducible refine s_next ?_
  | with_reducible refine s_op ?_
  | ((with_reducible apply s_var); exact rfl)
  | ((with_reducible apply s_cS); (walk_at "lit"))
  | with_reducible refine s_c ?_
  | with_reducible refine s_cb ?_
  | with_reducible refine s_cons ?_
  | with_reducible refine s_nil ?_
  | with_reducible refine s_un ?_
  | with_reducible refine s_call ?_
  | with_reducible refine s_test ?_
  | with_reducible refine s_tB ?_
  | with_reducible refine s_blQ ?_
  | with_reducible refine s_not ?_
  | with_reducible refine s_and ?_
  | with_reducible refine s_or ?_
  | with_reducible refine s_andV ?_
  | with_reducible refine s_orV ?_
  | with_reducible refine s_notV ?_
  | with_reducible refine s_ifE ?_
  | with_reducible refine s_chain ?_
  | ((with_reducible refine s_T ?_ ?_); (with_reducible exact rfl))
  | with_reducible refine s_nT ?_
  | with_reducible refine s_nF ?_
  | ((with_reducible refine s_F ?_ ?_); (with_reducible exact rfl))
  | ((with_reducible refine s_T ?_ ?_); assumption)
  | ((with_reducible refine s_F ?_ ?_); assumption)
  | ((with_reducible refine s_nB ?_ ?_); assumption)
  | ((with_reducible refine s_nA ?_ ?_); assumption)
  | ((with_reducible refine s_Td ?_ ?_); omega)
  | ((with_reducible refine s_Fd ?_ ?_); omega)
  | ((with_reducible refine s_nTd ?_ ?_); omega)
  | ((with_reducible refine s_nFd ?_ ?_); omega)
  | with_reducible refine s_sfld ?_
  | with_reducible refine s_addI ?_
  | with_reducible refine s_subI ?_
  | ((with_reducible refine s_mulI ?_ ?_); (walk_at "mul"))
  | ((with_reducible refine s_divI ?_ ?_); exact ⟨by omega, by omega⟩)
  | ((with_reducible refine s_modI ?_ ?_); omega)
  | ((with_reducible refine s_powI ?_ ?_); exact ⟨by decide, by decide, by decide⟩)
  | with_reducible refine s_ltI ?_
  | with_reducible refine s_leI ?_
  | with_reducible refine s_gtI ?_
  | with_reducible refine s_geI ?_
  | with_reducible refine s_negI ?_
  | with_reducible refine s_absI ?_
  | with_reducible refine s_intI ?_
  | with_reducible refine s_min2 ?_
  | with_reducible refine s_max2 ?_
  | with_reducible refine s_eqI ?_
  | with_reducible refine s_neI ?_
  | with_reducible refine s_eqS ?_
  | with_reducible refine s_neS ?_
  | with_reducible refine s_inSg ?_
  | with_reducible refine s_notInSg ?_
  | ((with_reducible refine s_addS ?_ ?_); (walk_at "sz"))
  | ((with_reducible refine s_lenS ?_ ?_); (walk_at "sz"))
  | ((with_reducible apply s_lenL); (walk_at "sq"))
  | ((with_reducible apply s_lenT); (walk_at "sqt"))
  | ((with_reducible apply s_ixL); (walk_at "sq"); exact rfl)
  | ((with_reducible apply s_ixT); (walk_at "sqt"); exact rfl)
  | with_reducible refine s_gSub ?_
  | ((with_reducible apply s_setL); (walk_at "hp"); (exact rfl); (intro _ _ _))
  | ((with_reducible refine s_alloc ?_ ?_); (walk_at "sz"); (intro _ _ _ _ _))
  | ((with_reducible refine s_divmod ?_ ?_); (exact ⟨by omega, PyProof.noPylong_small (by omega)⟩); (intro _ _ _ _ _))
  | ((with_reducible apply s_gTup); (walk_at "sqt"); (exact rfl))
  | ((with_reducible apply s_gLst); (walk_at "sq"); (exact rfl))
  | with_reducible refine s_gCons ?_
  | with_reducible refine s_gNil ?_
  | with_reducible refine s_lc ?_
  | ((with_reducible apply s_cat); (walk_at "hp"); (walk_at "hp"); (walk_at "sz"); (intro _ _ _ _ _))
  | ((with_reducible apply s_slL); (walk_at "sq"); (intro _ _ _ _ _))
  | with_reducible refine s_for ?_
  | with_reducible refine s_rng1 ?_
  | ((with_reducible refine s_rng1i ?_ ?_); (constructor <;> omega))
  | with_reducible refine s_rng2 ?_
  | ((with_reducible refine s_rng2i ?_ ?_); (refine ⟨?_, ?_, ?_, ?_⟩ <;> omega))
  | with_reducible refine s_iStr ?_
  | with_reducible refine s_iStrS ?_
  | with_reducible refine s_iList ?_
  | ((with_reducible apply s_iListA); (walk_at "sq"))
  | with_reducible refine s_iTup ?_
  | ((with_reducible apply s_iTupA); (walk_at "sqt"))
  | with_reducible refine s_sl ?_
  | with_reducible refine s_noPart ?_
  | with_reducible refine s_part ?_
  | with_reducible refine s_int1 ?_
  | ((with_reducible refine s_slS ?_ ?_); (walk_at "sz"))
  | with_reducible refine s_tup ?_
  | with_reducible refine s_lst ?_
  | with_reducible refine s_par ?_
  | with_reducible refine s_pair ?_
  | with_reducible refine s_M1 ?_
  | with_reducible refine s_isStr ?_
  | with_reducible refine s_revS ?_
  | ((with_reducible refine s_revS1 ?_ ?_); (walk_at "sz"))
  | with_reducible refine s_fldE ?_
  | with_reducible refine s_propE ?_
  | ((with_reducible refine u_draw ?_ ?_ ?_ ?_); omega; omega; (walk_at "pool"); (intro _ _ _ _ _ _))
  | ((with_reducible refine u_pool ?_); (intro _ _ _ _ _))
  | with_reducible refine u_is_integer ?_
  | with_reducible refine s_isiII ?_
  | with_reducible refine s_isiIB ?_
  | with_reducible refine s_isiSS ?_
  | ((with_reducible apply u_fldRing); assumption; (walk_at "ring"))
  | ((with_reducible apply u_textP); (walk_at "ring"))
  | ((with_reducible apply u_strRing); (walk_at "ring"))
  | ((with_reducible apply u_eqRing); (walk_at "ring"); (walk_at "ring"))
  | ((with_reducible apply u_isiRing); assumption; (walk_at "ring"))
  | ((with_reducible refine u_is_word ?_ ?_); omega; (intro _ _))
  | ((with_reducible refine u_turnings ?_ ?_); omega; (intro _ _ _ _ _))
  | with_reducible refine s_makeE ?_
  | with_reducible refine s_methE ?_)
local macro_rules | `(tactic| walk_at "go") => `(tactic| repeat (walk_at "st"))
local macro_rules | `(tactic| walk_at "exs") => `(tactic| first | exact Ex.rfl | assumption | (apply Ex.snoc (by assumption); walk_at "exs") | (apply Ex.snocW (by assumption); walk_at "exs"))
local macro_rules | `(tactic| walk_at "st") => `(tactic| first
  | with_reducible refine s_dcT ?_
  | with_reducible refine s_dc ?_)
def t_b05_11 (K : PySem.W.Frag) : TS :=
  (tIfS (tOr (tTest (tOp (rNeS K) (tLam (tabs05 K) (TT_law_heard05 K) (fun E => (tOp (rBinO (He.ga K "Ring") (spx_Ring_add K) E) (tVar 2) (tVar 3)))) (tCall (sp_law_due05 K) [] E0 (tCons (tVar 9) (tCons (tVar 3) tNil))))) (tTest (tOp (rNeS K) (tLst (tCons (tProp (He.ga K "Ring") (sp_Ring_text K) [] E0 (tVar 2)) (tCons (tProp (He.ga K "Ring") (sp_Ring_text K) [] E0 (tVar 3)) tNil))) (tVar 4)))) (tRet (tC (.bl false))) tNext)
def t_b05_10 (K : PySem.W.Frag) : TS :=
  (tSeq (tAsg (tIf (tTest (tOp rLeI (tOp rAddI (tCB (rLenV K) (tCons (tOp (rIxL K) (tVar 4) (tC (.int 0))) tNil)) (tCB (rLenV K) (tCons (tOp (rIxL K) (tVar 4) (tC (.int 1))) tNil))) (tC (.int 600)))) (tC (.str "nothing")) (tC (.str "word"))) (gName 9))
  (t_b05_11 K))
def t_b05_9 (K : PySem.W.Frag) : TS :=
  (tSeq (tIfS (tTest (tOp (rNeS K) (tLam (tabs05 K) (TT_law_heard05 K) (fun E => (tOp (rBinV (He.ga K "Ring") (spx_Ring_add K) E K) (tVar 2) (tVar 10)))) (tCall (sp_law_due05 K) [] E0 (tCons (tC (.str "ring")) (tCons (tVar 10) tNil))))) (tRet (tC (.bl false))) tNext)
  (t_b05_10 K))
def t_b05_8 (K : PySem.W.Frag) : TS :=
  (tSeq (tIfS (tTest (tOp (rNeS K) (tLam (tabs05 K) (TT_law_heard05 K) (fun E => (tOp (rBinV (He.ga K "Ring") (spx_Ring_mul K) E K) (tVar 2) (tVar 10)))) (tCall (sp_law_due05 K) [] E0 (tCons (tCall (sp_law_times_due K) [] E0 (tCons (tVar 10) (tCons (tCB (rLenV K) (tCons (tVar 1) tNil)) tNil))) (tCons (tVar 10) tNil))))) (tRet (tC (.bl false))) tNext)
  (t_b05_9 K))
def t_b05_7 (K : PySem.W.Frag) : TS :=
  (tSeq (tIfS (tTest (tOp (rNeS K) (tLam (tabs05 K) (TT_law_heard05 K) (fun E => (tOp (rBinV (He.ga K "Ring") (spx_Ring_mul K) E K) (tVar 2) (tVar 8)))) (tCall (sp_law_due05 K) [] E0 (tCons (tCall (sp_law_times_due K) [] E0 (tCons (tVar 8) (tCons (tCB (rLenV K) (tCons (tVar 1) tNil)) tNil))) (tCons (tVar 8) tNil))))) (tRet (tC (.bl false))) tNext)
  (t_b05_8 K))
def t_b05_6 (K : PySem.W.Frag) : TS :=
  (tSeq (tAsg (tOp rSubI (tOp rAddI (tOp rDivI (tC (.int 600)) (tCB (rLenV K) (tCons (tVar 1) tNil))) (tCall (sp_law_draw K) [] E0 (tCons (tVar 0) (tCons (tC (.int 3)) tNil)))) (tC (.int 1))) (gName 8))
  (t_b05_7 K))
section
variable {K : PySem.W.Frag} {vs : List V} {H H1 H' : Hp} {Q : VK} {E : XK} {a p q x y r : Addr} {l m w : List Nat} {v u sp : V} {s : Th12} {du ds : PyData}
def Pw (w : List Nat) (s : Th12) : Addr → Hp → Prop := fun p H => Told05 H p w (due05 w s)
theorem body_ok {body : XK → TE} {σ : L2.St} (h : ∀ (E : XK) (R : VK), (∀ v H2, Ex [] H1 H2 → R v H2) → body E σ H1 R) : Body05 K body σ (Pw sNothing s) H1 := fun E R h1 _ => h E R (h1 fun p H3 _ hp => by
  unfold Pw due05
  rw [if_pos rfl]
  exact hp)
theorem body_bad {body : XK → TE} {σ : L2.St} {C : Str} (hm : (C, w) ∈ heards05) (hw : w ≠ sNothing) (hv : ThAt K [] H1 v s) (h : ∀ (E : XK) (R : VK), Rsd K H1 E C "given" v → body E σ H1 R) : Body05 K body σ (Pw w s) H1 := fun E R _ h2 => h E R (h2 C w s v H1 hm Ex.rfl hv fun p H3 _ hp => by
  unfold Pw due05
  rw [if_neg hw]
  exact hp)
theorem s_sameT {body : XK → TE} {due : TE} {σ : L2.St} {R : Bool → Hp → Prop} (hT : Tabs (tabs05 K) H) (pw : plain w) (hb : ∀ H1, ExN [] H H1 → Body05 K body σ (Pw w s) H1)
    (hd : ∀ (H1 : Hp) (Q' : VK), ExN [] H H1 → (∀ p2 H2, Ex [] H1 H2 → Told05 H2 p2 w (due05 w s) → Q' (.ref p2) H2) → due σ H1 Q')
    (k : ∀ H3, ExN [] H H3 → Tabs (tabs05 K) H3 → R false H3) : tTest (tOp (rNeS K) (tLam (tabs05 K) (TT_law_heard05 K) body) due) σ H R := by
  refine s_test (s_op (s_heard05 hT (fun H1 e1 => hb H1 (ExN.ofT e1)) fun p1 H1 H2 e1 e2 t2 hp => ?_))
  have x2 : ExN [] H H2 := (ExN.ofT e1).trans (ExN.of0 e2)
  refine hd H2 _ x2 fun p2 H3 e3 h2 => ?_
  exact s_neTold pw (hp.ex0 e3) h2 fun G eG => s_blQ (k G (x2.trans (ExN.of0 (e3.trans eG))) (Tabs.ex0 (e3.trans eG) t2))
theorem s_same05 {body : XK → TE} {due : TE} {σ : L2.St} {D : Ends} (hT : Tabs (tabs05 K) H) (pw : plain w) (hb : ∀ H1, ExN [] H H1 → Body05 K body σ (Pw w s) H1)
    (hd : ∀ (H1 : Hp) (Q' : VK), ExN [] H H1 → (∀ p2 H2, Ex [] H1 H2 → Told05 H2 p2 w (due05 w s) → Q' (.ref p2) H2) → due σ H1 Q')
    (k : ∀ H3, ExN [] H H3 → Tabs (tabs05 K) H3 → D.nx σ H3) : tIfS (tTest (tOp (rNeS K) (tLam (tabs05 K) (TT_law_heard05 K) body) due)) (tRet (tC (.bl false))) tNext D σ H := by
  obtain ⟨n, rt, b, c⟩ := D
  exact s_ifS (s_sameT hT pw hb hd fun H3 e t => s_F rfl (s_next (k H3 e t)))
structure At05 (K : PySem.W.Frag) (a x y q : Addr) (l m : List Nat) (H : Hp) : Prop where
  pl : PoolAt H a
  t : Tabs (tabs05 K) H
  rx : RingAt K H x (leastT l)
  ry : RingAt K H y (leastT m)
  kq : H q = some (.lst [vS (leastT l), vS (leastT m)])
  nq : q ≠ a
theorem At05.exN (e : ExN [] H H') (t : Tabs (tabs05 K) H') (h : At05 K a x y q l m H) : At05 K a x y q l m H' := by
  obtain ⟨i, j, k, hp⟩ := id h.pl
  exact ⟨⟨i, j, k, e _ _ (by simp) hp fun _ z => by cases z⟩, t, h.rx.exN e (by simp), h.ry.exN e (by simp), e _ _ (by simp) h.kq (fun _ z => by cases z), h.nq⟩
theorem At05.ex0 (e : Ex [] H H') (h : At05 K a x y q l m H) : At05 K a x y q l m H' := h.exN (.of0 e) (Tabs.ex0 e h.t)
theorem At05.exP (e : Ex [a] H H') (p : PoolAt H' a) (h : At05 K a x y q l m H) : At05 K a x y q l m H' := ⟨p, Tabs.exP h.pl e h.t, h.rx.ex e (by simpa using h.rx.ne h.pl), h.ry.ex e (by simpa using h.ry.ne h.pl), e _ _ (by simpa using h.nq) h.kq, h.nq⟩
theorem ExN.wide {m : List Addr} (e : ExN [] H H') : ExN m H H' := fun b o _ h z => e b o (by simp) h z
theorem th_ring (h : RingAt K H y w) : ThAt K [] H (.ref y) (.inr y) := ⟨rfl, by simp, w, h⟩
theorem rg_ins (h : RingAt K H x w) : ∃ dx fs, H x = some (.ins (He.ga K "Ring") dx fs) := by
  obtain ⟨dx, h⟩ := h
  exact ⟨dx, _, h⟩
theorem s_addOK (hx : RingAt K H x l) (hy : RingAt K H y m) (wl : isWord l LET = true) (wm : isWord m LET = true) (h : l.length + m.length ≤ 600) (k : NewRing K H Q (l ++ m)) : rBinO (He.ga K "Ring") (spx_Ring_add K) E (.ref x) (.ref y) H Q := by
  obtain ⟨dx, fs, h1⟩ := rg_ins hx
  obtain ⟨dy, gs, h2⟩ := rg_ins hy
  exact ⟨x, dx, fs, rfl, h1, ⟨y, dy, gs, rfl, h2⟩, .inl ⟨x, y, l, m, rfl, hx, hy, wl, wm, h, k⟩⟩
theorem s_addNo (hx : RingAt K H x l) (hy : RingAt K H y m) (wl : l.length ≤ 600) (wm : m.length ≤ 600) (h : 600 < l.length + m.length) (k : Rsd K H E "InvalidWord" "given" (.ref y)) : rBinO (He.ga K "Ring") (spx_Ring_add K) E (.ref x) (.ref y) H Q := by
  obtain ⟨dx, fs, h1⟩ := rg_ins hx
  obtain ⟨dy, gs, h2⟩ := rg_ins hy
  exact ⟨x, dx, fs, rfl, h1, ⟨y, dy, gs, rfl, h2⟩, .inr ⟨x, .ref y, rfl, l, hx, wl, .inr ⟨y, m, rfl, hy, wm, h, k⟩⟩⟩
theorem fr_two {b1 : Addr} (pl : plain l) (pm : plain m) (h : H b1 = some (.lst [vS l, vS m])) : Fr (fun _ => True) H 1 (.ref b1) (.list [dS l, dS m]) := .inr ⟨b1, _, _, rfl, rfl, True.intro, h, rfl, fun i x e h1 h2 => by
  match i, h1, h2 with
  | 0, h1, h2 => cases h1; cases h2; exact scS pl
  | 1, h1, h2 => cases h1; cases h2; exact scS pm⟩
theorem b05_11 (hl : isWord l LET = true) (hm : isWord m LET = true) (A : At05 K a x y q l m H) {x1 x5 x6 x7 x8 x10 x11 : Option V} {D : Ends}
    (k : ∀ G, At05 K a x y q l m G → ExN [] H G → D.nx [some (.ref a), x1, some (.ref x), some (.ref y), some (.ref q), x5, x6, x7, x8, some (vS (if (leastT l).length + (leastT m).length ≤ 600 then sNothing else s05Word)), x10, x11] G) :
    t_b05_11 K D [some (.ref a), x1, some (.ref x), some (.ref y), some (.ref q), x5, x6, x7, x8, some (vS (if (leastT l).length + (leastT m).length ≤ 600 then sNothing else s05Word)), x10, x11] H := by
  unfold t_b05_11
  obtain ⟨nx, rt, bk, ct⟩ := D
  have wl := isWord_least hl
  have wm := isWord_least hm
  have ll := isWord_len wl
  have lm := isWord_len wm
  have pl : plain (leastT l) := fun c hc => let_plain (isWord_in wl c hc)
  have pm : plain (leastT m) := fun c hc => let_plain (isWord_in wm c hc)
  refine s_ifS (s_or ?_)
  generalize hw : (if (leastT l).length + (leastT m).length ≤ 600 then sNothing else s05Word) = w
  rw [hw] at k
  refine s_sameT (w := w) (s := .inr y) A.t ?_ (fun H1 e1 => ?_) (fun H1 Q' e1 kk => ?_) (fun H2 e2 t2 => ?_)
  · rw [← hw]
    split
    · exact plain_05.2.2.2.2
    · exact plain_05.1
  · have hx := A.rx.exN e1 (by simp)
    have hy := A.ry.exN e1 (by simp)
    by_cases hc : (leastT l).length + (leastT m).length ≤ 600
    · rw [if_pos hc] at hw
      subst hw
      exact body_ok fun E R kR => s_op (s_var (v := .ref x) rfl (s_var (v := .ref y) rfl (s_addOK hx hy wl wm hc fun z G _ e _ => kR _ _ e)))
    · rw [if_neg hc] at hw
      subst hw
      exact body_bad (C := "InvalidWord") (by simp [heards05]) (by decide) (th_ring hy) fun E R kR => s_op (s_var (v := .ref x) rfl (s_var (v := .ref y) rfl (s_addNo hx hy ll.2 lm.2 (by omega) kR)))
  · exact s_call (s_cons (s_var (v := vS w) rfl (s_cons (s_var (v := .ref y) rfl (s_nil (u_due05 (th_ring (A.ry.exN e1 (by simp))) fun p H2 _ e2 hp => kk p H2 e2 hp))))))
  · have A2 := A.exN e2 t2
    refine s_F rfl (s_test (s_op (s_lst (s_cons (s_propE (s_var (v := .ref x) rfl (u_textP A2.rx (s_cons (s_propE (s_var (v := .ref y) rfl (u_textP A2.ry (s_nil (s_alloc (by show 2 ≤ sizeLine; decide) fun b G nb e hb => ?_)))))))))))))
    have A3 := A2.ex0 e
    refine s_var (v := .ref q) rfl (.inl (s_neFr (n := 1) (m := 1) (by decide) (fr_two pl pm hb) (fr_two pl pm A3.kq) (s_blQ (s_F rfl (s_next ?_)))))
    exact k G A3 (e2.trans (.of0 e))
theorem lenOK {n : Nat} (h : n ≤ 600) : n ≤ sizeLine := Nat.le_trans h (by decide)
theorem b05_10 (hl : isWord l LET = true) (hm : isWord m LET = true) (A : At05 K a x y q l m H) {x1 x5 x6 x7 x8 x9 x10 x11 : Option V} {D : Ends}
    (k : ∀ x9 G, At05 K a x y q l m G → ExN [] H G → D.nx [some (.ref a), x1, some (.ref x), some (.ref y), some (.ref q), x5, x6, x7, x8, x9, x10, x11] G) :
    t_b05_10 K D [some (.ref a), x1, some (.ref x), some (.ref y), some (.ref q), x5, x6, x7, x8, x9, x10, x11] H := by
  unfold t_b05_10
  obtain ⟨nx, rt, bk, ct⟩ := D
  have ll := isWord_len (isWord_least hl)
  have lm := isWord_len (isWord_least hm)
  refine s_seq (s_asg (s_ifE (s_test (s_op (s_op (s_cb (s_cons (s_op (s_var (v := .ref q) rfl (s_c (s_ixL (v := vS (leastT l)) (SqL.of A.kq) (atI_of (by decide) rfl) (s_nil (s_lenS (lenOK ll.2) ?_)))))))))))))
  refine s_cb (s_cons (s_op (s_var (v := .ref q) rfl (s_c (s_ixL (v := vS (leastT m)) (SqL.of A.kq) (atI_of (by decide) rfl) (s_nil (s_lenS (lenOK lm.2) (s_addI (s_c (s_leI (s_blQ ?_)))))))))))
  by_cases hc : (leastT l).length + (leastT m).length ≤ 600
  · refine s_T (decide_eq_true (by omega)) (s_cS (l := sNothing) (by decide +kernel) (s_gName ?_))
    have e : vS sNothing = vS (if (leastT l).length + (leastT m).length ≤ 600 then sNothing else s05Word) := by rw [if_pos hc]
    rw [e]
    exact b05_11 hl hm A fun G AG eG => k _ G AG eG
  · refine s_F (decide_eq_false (by omega)) (s_cS (l := s05Word) (by decide +kernel) (s_gName ?_))
    have e : vS s05Word = vS (if (leastT l).length + (leastT m).length ≤ 600 then sNothing else s05Word) := by rw [if_neg hc]
    rw [e]
    exact b05_11 hl hm A fun G AG eG => k _ G AG eG
theorem ValD.kd {m : List Addr} (h : ValD K m H v du) : ∃ n, Kd K H v n := by
  rcases h.str with ⟨l, rfl, _⟩ | ⟨n, _, hk⟩
  · exact ⟨_, .str⟩
  · exact ⟨n, hk H ExN.refl⟩
theorem thD {m : List Addr} (h : ValD K m H v du) : ThAt K [] H v (.inl du) := ThAt.nil (m := m) (s := .inl du) h
theorem b05_9 (hl : isWord l LET = true) (hm : isWord m LET = true) (A : At05 K a x y q l m H) (hu : ValD K [a] H u du) {x1 x5 x6 x7 x8 x9 x11 : Option V} {D : Ends}
    (k : ∀ x9 G, At05 K a x y q l m G → ExN [] H G → D.nx [some (.ref a), x1, some (.ref x), some (.ref y), some (.ref q), x5, x6, x7, x8, x9, some u, x11] G) :
    t_b05_9 K D [some (.ref a), x1, some (.ref x), some (.ref y), some (.ref q), x5, x6, x7, x8, x9, some u, x11] H := by
  unfold t_b05_9
  obtain ⟨nx, rt, bk, ct⟩ := D
  have ll := isWord_len (isWord_least hl)
  refine s_seq (s_same05 (w := s05Ring) (s := .inl du) A.t plain_05.2.2.2.1 (fun H1 e1 => ?_) (fun H1 Q' e1 kk => ?_) (fun H2 e2 t2 => ?_))
  · have hx := A.rx.exN e1 (by simp)
    have hu1 := hu.ex e1.wide
    obtain ⟨dx, fs, h1⟩ := rg_ins hx
    exact body_bad (C := "NotARing") (by simp [heards05]) (by decide) (thD hu1) fun E R kR => s_op (s_var (v := .ref x) rfl (s_var (v := u) rfl ⟨x, dx, fs, rfl, h1, hu1.kd, .inr ⟨x, u, rfl, leastT l, hx, ll.2, .inl ⟨hu1.kd, kR⟩⟩⟩))
  · exact s_call (s_cons (s_cS (l := s05Ring) (by decide +kernel) (s_cons (s_var (v := u) rfl (s_nil (u_due05 (thD (hu.ex e1.wide)) fun p H2 _ e2 hp => kk p H2 e2 hp))))))
  · exact b05_10 hl hm (A.exN e2 t2) fun x9 G AG eG => k x9 G AG (e2.trans eG)
theorem mul_cmp (hl : isWord l LET = true) (A : At05 K a x y q l m H) (hv : ValD K [a] H v du) {j : Nat} {σ : L2.St} (h1 : σ[1]? = some (some (vS l))) (h2 : σ[2]? = some (some (.ref x))) (hj : σ[j]? = some (some v)) {D : Ends}
    (k : ∀ G, At05 K a x y q l m G → ExN [] H G → D.nx σ G) :
    tIfS (tTest (tOp (rNeS K) (tLam (tabs05 K) (TT_law_heard05 K) (fun E => (tOp (rBinV (He.ga K "Ring") (spx_Ring_mul K) E K) (tVar 2) (tVar j)))) (tCall (sp_law_due05 K) [] E0 (tCons (tCall (sp_law_times_due K) [] E0 (tCons (tVar j) (tCons (tCB (rLenV K) (tCons (tVar 1) tNil)) tNil))) (tCons (tVar j) tNil))))) (tRet (tC (.bl false))) tNext D σ H := by
  have wl := isWord_least hl
  have ll := isWord_len wl
  have l0 : l ≠ [] := fun z => by have := (isWord_len hl).1; rw [z] at this; simp at this
  have le : (leastT l).length = l.length := leastT_len l0
  have fin : ∀ (w : List Nat), plain w → (∀ H1, ExN [] H H1 → Body05 K (fun E => (tOp (rBinV (He.ga K "Ring") (spx_Ring_mul K) E K) (tVar 2) (tVar j))) σ (Pw w (.inl du)) H1) → (∀ H1 (Q' : VK), ExN [] H H1 → Q' (vS w) H1 → sp_law_times_due K ([v, .int l.length] ++ []) H1 Q' E0) →
      tIfS (tTest (tOp (rNeS K) (tLam (tabs05 K) (TT_law_heard05 K) (fun E => (tOp (rBinV (He.ga K "Ring") (spx_Ring_mul K) E K) (tVar 2) (tVar j)))) (tCall (sp_law_due05 K) [] E0 (tCons (tCall (sp_law_times_due K) [] E0 (tCons (tVar j) (tCons (tCB (rLenV K) (tCons (tVar 1) tNil)) tNil))) (tCons (tVar j) tNil))))) (tRet (tC (.bl false))) tNext D σ H := fun w pw hb hd => by
    refine s_same05 (w := w) (s := .inl du) A.t pw hb (fun H1 Q' e1 kk => ?_) (fun H2 e2 t2 => k H2 (A.exN e2 t2) e2)
    refine s_call (s_cons (s_call (s_cons (s_var hj (s_cons (s_cb (s_cons (s_var h1 (s_nil (s_lenS (lenOK (isWord_len hl).2) (s_nil (hd H1 _ e1 ?_))))))))))))
    exact s_cons (s_var hj (s_nil (u_due05 (thD (hv.ex e1.wide)) fun p H2 _ e2 hp => kk p H2 e2 hp)))
  have bin : ∀ {H1 : Hp} {E : XK} {R : VK}, ExN [] H H1 → spx_Ring_mul K [.ref x, v] H1 R E → tOp (rBinV (He.ga K "Ring") (spx_Ring_mul K) E K) (tVar 2) (tVar j) σ H1 R := fun {H1 E R} e1 h => by
    obtain ⟨dx, fs, hi⟩ := rg_ins (A.rx.exN e1 (by simp))
    exact s_op (s_var h2 (s_var hj ⟨x, dx, fs, rfl, hi, (hv.ex e1.wide).kd, h⟩))
  have num : (∀ H1, ExN [] H H1 → (∃ i : Int, v = .int i ∧ i < 1) ∨ NoInt K H1 v) → tIfS (tTest (tOp (rNeS K) (tLam (tabs05 K) (TT_law_heard05 K) (fun E => (tOp (rBinV (He.ga K "Ring") (spx_Ring_mul K) E K) (tVar 2) (tVar j)))) (tCall (sp_law_due05 K) [] E0 (tCons (tCall (sp_law_times_due K) [] E0 (tCons (tVar j) (tCons (tCB (rLenV K) (tCons (tVar 1) tNil)) tNil))) (tCons (tVar j) tNil))))) (tRet (tC (.bl false))) tNext D σ H := fun hb =>
    fin s05Number plain_05.2.2.1 (fun H1 e1 => body_bad (C := "InvalidNumber") (by simp [heards05]) (by decide) (thD (hv.ex e1.wide)) fun E R kR => bin e1 (.inr ⟨x, v, rfl, leastT l, A.rx.exN e1 (by simp), ll.2, .inl ⟨hb H1 e1, kR⟩⟩)) fun H1 Q' e1 kk => ⟨v, _, rfl, .inl ⟨hb H1 e1, kk⟩⟩
  rcases hv.int with ⟨i, rfl, hi⟩ | ⟨n, hn, hk⟩
  · by_cases h0 : i < 1
    · exact num fun _ _ => .inl ⟨i, rfl, h0⟩
    · have nn : (l.length : Int) ≤ 600 := by have := (isWord_len hl).2; omega
      by_cases hc : (l.length : Int) * i ≤ 600
      · refine fin sNothing plain_05.2.2.2.2 (fun H1 e1 => body_ok fun E R kR => bin e1 (.inl ⟨x, leastT l, i, rfl, A.rx.exN e1 (by simp), wl, by omega, by rw [le]; exact hc, fun z G _ e _ => kR _ _ e⟩)) fun H1 Q' e1 kk => ⟨_, _, rfl, .inr ⟨i, rfl, by omega, by omega, nn, ?_⟩⟩
        rw [if_pos hc]
        exact kk
      · refine fin s05Word plain_05.1 (fun H1 e1 => body_bad (C := "InvalidWord") (by simp [heards05]) (by decide) (thD (hv.ex e1.wide)) fun E R kR => bin e1 (.inr ⟨x, _, rfl, leastT l, A.rx.exN e1 (by simp), ll.2, .inr ⟨i, rfl, by omega, by rw [le]; omega, kR⟩⟩)) fun H1 Q' e1 kk => ⟨_, _, rfl, .inr ⟨i, rfl, by omega, by omega, nn, ?_⟩⟩
        rw [if_neg hc]
        exact kk
  · exact num fun H1 e1 => .inr ⟨n, hn, hk H1 e1.wide⟩
theorem b05_8 (hl : isWord l LET = true) (hm : isWord m LET = true) (A : At05 K a x y q l m H) (hu : ValD K [a] H u du) {x5 x6 x7 x8 x9 x11 : Option V} {D : Ends}
    (k : ∀ x9 G, At05 K a x y q l m G → ExN [] H G → D.nx [some (.ref a), some (vS l), some (.ref x), some (.ref y), some (.ref q), x5, x6, x7, x8, x9, some u, x11] G) :
    t_b05_8 K D [some (.ref a), some (vS l), some (.ref x), some (.ref y), some (.ref q), x5, x6, x7, x8, x9, some u, x11] H := by
  unfold t_b05_8
  obtain ⟨nx, rt, bk, ct⟩ := D
  refine s_seq (mul_cmp hl A hu rfl rfl rfl fun G AG eG => ?_)
  exact b05_9 hl hm AG (hu.ex eG.wide) fun x9 G2 AG2 eG2 => k x9 G2 AG2 (eG.trans eG2)
theorem b05_7 (hl : isWord l LET = true) (hm : isWord m LET = true) (A : At05 K a x y q l m H) (hu : ValD K [a] H u du) {i : Int} (hi : i.natAbs ≤ 10 ^ 38) {x5 x6 x7 x9 x11 : Option V} {D : Ends}
    (k : ∀ x8 x9 G, At05 K a x y q l m G → ExN [] H G → D.nx [some (.ref a), some (vS l), some (.ref x), some (.ref y), some (.ref q), x5, x6, x7, x8, x9, some u, x11] G) :
    t_b05_7 K D [some (.ref a), some (vS l), some (.ref x), some (.ref y), some (.ref q), x5, x6, x7, some (.int i), x9, some u, x11] H := by
  unfold t_b05_7
  obtain ⟨nx, rt, bk, ct⟩ := D
  refine s_seq (mul_cmp hl A (.int_ i hi) rfl rfl rfl fun G AG eG => ?_)
  exact b05_8 hl hm AG (hu.ex eG.wide) fun x9 G2 AG2 eG2 => k _ x9 G2 AG2 (eG.trans eG2)
theorem b05_6 (hl : isWord l LET = true) (hm : isWord m LET = true) (A : At05 K a x y q l m H) (hu : ValD K [a] H u du) {x5 x6 x7 x8 x9 x11 : Option V} {D : Ends}
    (k : ∀ x8 x9 G, At05 K a x y q l m G → ExN [a] H G → D.nx [some (.ref a), some (vS l), some (.ref x), some (.ref y), some (.ref q), x5, x6, x7, x8, x9, some u, x11] G) :
    t_b05_6 K D [some (.ref a), some (vS l), some (.ref x), some (.ref y), some (.ref q), x5, x6, x7, x8, x9, some u, x11] H := by
  unfold t_b05_6
  obtain ⟨nx, rt, bk, ct⟩ := D
  have hl1 := isWord_len hl
  have q1 : 600 / (l.length : Int) * (l.length : Int) ≤ 600 := Int.ediv_mul_le _ (by omega)
  have q0 : 0 ≤ 600 / (l.length : Int) := Int.ediv_nonneg (by omega) (by omega)
  have q2 : 600 / (l.length : Int) ≤ 600 := by
    have := Int.mul_le_mul_of_nonneg_left (show (1 : Int) ≤ (l.length : Int) by omega) q0
    omega
  have pl := A.pl
  walk_at "go"
  rename_i d G d0 d1 e p
  have b : (600 / (l.length : Int) + d - 1).natAbs ≤ 10 ^ 38 := Nat.le_trans (show _ ≤ 700 by omega) (by decide)
  exact b05_7 hl hm (A.exP e p) (hu.ex (.of e)) b fun x8 x9 G2 AG2 eG2 => k x8 x9 G2 AG2 ((ExN.of e).trans eG2.wide)
end
end WB
namespace WB
open PySem PySem.Spec PyProof.Rows L2 LamX
theorem l05e_110_111_116_104_105_110_103 : ("nothing" : Str) = S [110, 111, 116, 104, 105, 110, 103] := by decide +kernel
theorem l05e_112_108_97_99_101 : ("place" : Str) = S [112, 108, 97, 99, 101] := by decide +kernel
theorem l05e_119_111_114_100 : ("word" : Str) = S [119, 111, 114, 100] := by decide +kernel
local macro_rules | `(tactic| walk_at "lit") => `(tactic| first | exact l05e_110_111_116_104_105_110_103 | exact l05e_112_108_97_99_101 | exact l05e_119_111_114_100)
local macro_rules | `(tactic| walk_at "lit") => `(tactic| first | exact lit_abc | exact lit_empty)
local macro_rules | `(tactic| walk_at "nm") => `(tactic| focus first | exact List.not_mem_nil | (simp only [List.mem_singleton]; first | assumption | (exact Ne.symm (by assumption)) | (intro hz; subst hz; simp_all; done)))
local macro_rules | `(tactic| walk_at "hp") => `(tactic| first | assumption | (apply Ex.get0 (by assumption); walk_at "hp") | (apply Ex.get (by assumption); (walk_at "nm"); (walk_at "hp")))
local macro_rules | `(tactic| walk_at "sq") => `(tactic| first | assumption | (apply SqL.of; walk_at "hp") | (apply Ex.sqL (by assumption); (walk_at "nm"); (walk_at "sq")))
local macro_rules | `(tactic| walk_at "sqt") => `(tactic| first | assumption | (apply SqT.of; walk_at "hp") | (apply Ex.sqT (by assumption); (walk_at "nm"); (walk_at "sqt")))
local macro_rules | `(tactic| walk_at "sz") => `(tactic| focus ((with_reducible refine Nat.le_trans (m := 100000) ?_ (by decide)); first | omega | (simp; done) | (simp; omega)))
local macro_rules | `(tactic| walk_at "mul") => `(tactic| first | exact Or.inr ⟨by omega, by omega⟩ | exact Or.inl ⟨by omega, by omega⟩)
local macro_rules | `(tactic| walk_at "pool") => `(tactic| first | assumption | (apply PoolAt.ex (by assumption); (walk_at "nm"); (walk_at "pool")))
local macro_rules | `(tactic| walk_at "ring") => `(tactic| first | assumption | (apply RingAt.ex (by assumption); (walk_at "nm"); (walk_at "ring")))
local macro_rules | `(tactic| walk_at "st") => `(tactic| first
  | with_reducible refine s_seq ?_
  | with_reducible refine s_asg ?_
  | with_reducible refine s_gName ?_
  | with_reducible refine s_ret ?_
  | with_reducible refine s_ifS ?_
  | with_reducible refine s_next ?_
  | with_reducible refine s_op ?_
  | ((with_reducible apply s_var); exact rfl)
  | ((with_reducible apply s_cS); (walk_at "lit"))
  | with_reducible refine s_c ?_
  | with_reducible refine s_cb ?_
  | with_reducible refine s_cons ?_
  | with_reducible refine s_nil ?_
  | with_reducible refine s_un ?_
  | with_reducible refine s_call ?_
  | with_reducible refine s_test ?_
  | with_reducible refine s_tB ?_
  | with_reducible refine s_blQ ?_
  | with_reducible refine s_not ?_
  | with_reducible refine s_and ?_
  | with_reducible refine s_or ?_
  | with_reducible refine s_andV ?_
  | with_reducible refine s_orV ?_
  | with_reducible refine s_notV ?_
  | with_reducible refine s_ifE ?_
  | with_reducible refine s_chain ?_
  | ((with_reducible refine s_T ?_ ?_); (with_reducible exact rfl))
  | with_reducible refine s_nT ?_
  | with_reducible refine s_nF ?_
  | ((with_reducible refine s_F ?_ ?_); (with_reducible exact rfl))
  | ((with_reducible refine s_T ?_ ?_); assumption)
  | ((with_reducible refine s_F ?_ ?_); assumption)
  | ((with_reducible refine s_nB ?_ ?_); assumption)
  | ((with_reducible refine s_nA ?_ ?_); assumption)
  | ((with_reducible refine s_Td ?_ ?_); omega)
  | ((with_reducible refine s_Fd ?_ ?_); omega)
  | ((with_reducible refine s_nTd ?_ ?_); omega)
  | ((with_reducible refine s_nFd ?_ ?_); omega)
  | with_reducible refine s_sfld ?_
  | with_reducible refine s_addI ?_
  | with_reducible refine s_subI ?_
  | ((with_reducible refine s_mulI ?_ ?_); (walk_at "mul"))
  | ((with_reducible refine s_divI ?_ ?_); exact ⟨by omega, by omega⟩)
  | ((with_reducible refine s_modI ?_ ?_); omega)
  | ((with_reducible refine s_powI ?_ ?_); exact ⟨by decide, by decide, by decide⟩)
  | with_reducible refine s_ltI ?_
  | with_reducible refine s_leI ?_
  | with_reducible refine s_gtI ?_
  | with_reducible refine s_geI ?_
  | with_reducible refine s_negI ?_
  | with_reducible refine s_absI ?_
  | with_reducible refine s_intI ?_
  | with_reducible refine s_min2 ?_
  | with_reducible refine s_max2 ?_
  | with_reducible refine s_eqI ?_
  | with_reducible refine s_neI ?_
  | with_reducible refine s_eqS ?_
  | with_reducible refine s_neS ?_
  | with_reducible refine s_inSg ?_
  | with_reducible refine s_notInSg ?_
  | ((with_reducible refine s_addS ?_ ?_); (walk_at "sz"))
  | ((with_reducible refine s_lenS ?_ ?_); (walk_at "sz"))
  | ((with_reducible apply s_lenL); (walk_at "sq"))
  | ((with_reducible apply s_lenT); (walk_at "sqt"))
  | ((with_reducible apply s_ixL); (walk_at "sq"); exact rfl)
  | ((with_reducible apply s_ixT); (walk_at "sqt"); exact rfl)
  | with_reducible refine s_gSub ?_
  | ((with_reducible apply s_setL); (walk_at "hp"); (exact rfl); (intro _ _ _))
  | ((with_reducible refine s_alloc ?_ ?_); (walk_at "sz"); (intro _ _ _ _ _))
  | ((with_reducible refine s_divmod ?_ ?_); (exact ⟨by omega, PyProof.noPylong_small (by omega)⟩); (intro _ _ _ _ _))
  | ((with_reducible apply s_gTup); (walk_at "sqt"); (exact rfl))
  | ((with_reducible apply s_gLst); (walk_at "sq"); (exact rfl))
  | with_reducible refine s_gCons ?_
  | with_reducible refine s_gNil ?_
  | with_reducible refine s_lc ?_
  | ((with_reducible apply s_cat); (walk_at "hp"); (walk_at "hp"); (walk_at "sz"); (intro _ _ _ _ _))
  | ((with_reducible apply s_slL); (walk_at "sq"); (intro _ _ _ _ _))
  | with_reducible refine s_for ?_
  | with_reducible refine s_rng1 ?_
  | ((with_reducible refine s_rng1i ?_ ?_); (constructor <;> omega))
  | with_reducible refine s_rng2 ?_
  | ((with_reducible refine s_rng2i ?_ ?_); (refine ⟨?_, ?_, ?_, ?_⟩ <;> omega))
  | with_reducible refine s_iStr ?_
  | with_reducible refine s_iStrS ?_
  | with_reducible refine s_iList ?_
  | ((with_reducible apply s_iListA); (walk_at "sq"))
  | with_reducible refine s_iTup ?_
  | ((with_reducible apply s_iTupA); (walk_at "sqt"))
  | with_reducible refine s_sl ?_
  | with_reducible refine s_noPart ?_
  | with_reducible refine s_part ?_
  | with_reducible refine s_int1 ?_
  | ((with_reducible refine s_slS ?_ ?_); (walk_at "sz"))
  | with_reducible refine s_tup ?_
  | with_reducible refine s_lst ?_
  | with_reducible refine s_par ?_
  | with_reducible refine s_pair ?_
  | with_reducible refine s_M1 ?_
  | with_reducible refine s_isStr ?_
  | with_reducible refine s_revS ?_
  | ((with_reducible refine s_revS1 ?_ ?_); (walk_at "sz"))
  | with_reducible refine s_fldE ?_
  | with_reducible refine s_propE ?_
  | ((with_reducible refine u_draw ?_ ?_ ?_ ?_); omega; omega; (walk_at "pool"); (intro _ _ _ _ _ _))
  | ((with_reducible refine u_pool ?_); (intro _ _ _ _ _))
  | with_reducible refine u_is_integer ?_
  | with_reducible refine s_isiII ?_
  | with_reducible refine s_isiIB ?_
  | with_reducible refine s_isiSS ?_
  | ((with_reducible apply u_fldRing); assumption; (walk_at "ring"))
  | ((with_reducible apply u_textP); (walk_at "ring"))
  | ((with_reducible apply u_strRing); (walk_at "ring"))
  | ((with_reducible apply u_eqRing); (walk_at "ring"); (walk_at "ring"))
  | ((with_reducible apply u_isiRing); assumption; (walk_at "ring"))
  | ((with_reducible refine u_is_word ?_ ?_); omega; (intro _ _))
  | ((with_reducible refine u_turnings ?_ ?_); omega; (intro _ _ _ _ _))
  | with_reducible refine s_makeE ?_
  | with_reducible refine s_methE ?_)
local macro_rules | `(tactic| walk_at "go") => `(tactic| repeat (walk_at "st"))
local macro_rules | `(tactic| walk_at "exs") => `(tactic| first | exact Ex.rfl | assumption | (apply Ex.snoc (by assumption); walk_at "exs") | (apply Ex.snocW (by assumption); walk_at "exs"))
local macro_rules | `(tactic| walk_at "st") => `(tactic| first
  | with_reducible refine s_dcT ?_
  | with_reducible refine s_dc ?_)
def t_b05_5 (K : PySem.W.Frag) : TS :=
  (tSeq (tIfS (tTest (tOp (rNeS K) (tLam (tabs05 K) (TT_law_heard05 K) (fun E => (tMeth (He.ga K "Ring") "turned" (spx_Ring_turned K) [] E (tVar 2) (tCons (tVar 11) tNil)))) (tCall (sp_law_due05 K) [] E0 (tCons (tIf (tB (tCall (sp_law_wholeK K) [] E0 (tCons (tVar 11) tNil))) (tC (.str "nothing")) (tC (.str "place"))) (tCons (tVar 11) tNil))))) (tRet (tC (.bl false))) tNext)
  (t_b05_6 K))
def t_b05_4 (K : PySem.W.Frag) : TS :=
  (tSeq (tIfS (tTest (tOp (rNeS K) (tLam (tabs05 K) (TT_law_heard05 K) (fun E => (tOp (rIxO (He.ga K "Ring") (spx_Ring_getitem K) E) (tVar 2) (tVar 11)))) (tCall (sp_law_due05 K) [] E0 (tCons (tCall (sp_law_spot_due K) [] E0 (tCons (tVar 11) tNil)) (tCons (tVar 11) tNil))))) (tRet (tC (.bl false))) tNext)
  (t_b05_5 K))
def t_b05_3 (K : PySem.W.Frag) : TS :=
  (tSeq (tIfS (tTest (tOp (rNeS K) (tLam (tabs05 K) (TT_law_heard05 K) (fun E => (tMake (He.ga K "Ring") (spx_Ring_init K) [] E (tCons (tVar 6) tNil)))) (tVar 7))) (tRet (tC (.bl false))) tNext)
  (t_b05_4 K))
def t_b05_2 (K : PySem.W.Frag) : TS :=
  (tSeq (tAsg (tCall (sp_law_due05 K) [] E0 (tCons (tIf (tB (tCall (sp_law_is_word K) [] E0 (tCons (tVar 6) (tCons (tC (.str "abcdefghijklmnopqrstuvwxyz")) tNil)))) (tC (.str "nothing")) (tC (.str "word"))) (tCons (tVar 6) tNil))) (gName 7))
  (t_b05_3 K))
def t_b05_1 (K : PySem.W.Frag) : TS :=
  (tSeq (tAsg (tIf (tTest (tOp rEq (tCall (sp_law_draw K) [] E0 (tCons (tVar 0) (tCons (tC (.int 3)) tNil))) (tC (.int 0)))) (tVar 10) (tCall (sp_law_spoilt05 K) [] E0 (tCons (tVar 0) (tCons (tVar 1) tNil)))) (gName 6))
  (t_b05_2 K))
def t_b05_0 (K : PySem.W.Frag) : TS :=
  (tSeq (tAsg (tTup (tCons (tCall (sp_law_odd K) [] E0 (tCons (tVar 0) tNil)) (tCons (tCall (sp_law_spot05 K) [] E0 (tCons (tVar 0) tNil)) tNil))) (gTup K 2 (gCons (gName 10) (gCons (gName 11) gNil))))
  (t_b05_1 K))
section
variable {K : PySem.W.Frag} {vs : List V} {H H1 H' : Hp} {Q : VK} {E : XK} {a p q x y r : Addr} {l m w : List Nat} {v u sp : V} {s : Th12} {du ds : PyData}
theorem SpotAt.all {m : List Addr} (h : SpotAt K m H v) : (∀ H', ExN m H H' → SpotOK K H' v) ∨ ∀ H', ExN m H H' → BadSpot K H' v := by
  cases h with
  | int i => exact .inl fun _ _ => .inl ⟨i, rfl⟩
  | pair p u1 u2 h h1 h2 =>
    rcases h1 with ⟨i, rfl⟩ | ⟨n, hn, hk⟩
    · rcases h2 with ⟨j, rfl⟩ | ⟨n, hn, hk⟩
      · by_cases hj : 1 ≤ j ∧ j ≤ 600
        · exact .inl fun H' e => .inr ⟨p, i, j, rfl, h H' e, hj.1, hj.2⟩
        · exact .inr fun H' e => ⟨"tuple", Kd.tup (h H' e), by decide, .inr ⟨p, _, rfl, h H' e, .inr ⟨_, _, rfl, .inr ⟨⟨i, rfl⟩, .inr ⟨j, rfl, hj⟩⟩⟩⟩⟩
      · exact .inr fun H' e => ⟨"tuple", Kd.tup (h H' e), by decide, .inr ⟨p, _, rfl, h H' e, .inr ⟨_, _, rfl, .inr ⟨⟨i, rfl⟩, .inl ⟨n, hn, hk H' e⟩⟩⟩⟩⟩
    · exact .inr fun H' e => ⟨"tuple", Kd.tup (h H' e), by decide, .inr ⟨p, _, rfl, h H' e, .inr ⟨_, _, rfl, .inl ⟨n, hn, hk H' e⟩⟩⟩⟩
  | no v h =>
    refine .inr fun H' e => ?_
    obtain ⟨n, h1, h2, h3⟩ := h H' e
    exact ⟨n, h1, h2, h3.imp (fun z => z) fun ⟨p, xs, e, h4, h5⟩ => ⟨p, xs, e, h4, .inl h5⟩⟩
theorem SpotAt.intU {m : List Addr} (h : SpotAt K m H v) : (∃ i : Int, v = .int i) ∨ ∀ H', ExN m H H' → NoInt K H' v := by
  cases h with
  | int i => exact .inl ⟨i, rfl⟩
  | pair p u1 u2 h h1 h2 => exact .inr fun H' e => ⟨"tuple", by decide, Kd.tup (h H' e)⟩
  | no v h =>
    refine .inr fun H' e => ?_
    obtain ⟨n, h1, h2, h3⟩ := h H' e
    exact ⟨n, h2, h1⟩
theorem b05_5 (hl : isWord l LET = true) (hm : isWord m LET = true) (A : At05 K a x y q l m H) (hu : ValD K [a] H u du) (hs : SpotAt K [a] H sp) (hd : ValD K [a] H sp ds) {x5 x6 x7 x8 x9 : Option V} {D : Ends}
    (k : ∀ x8 x9 G, At05 K a x y q l m G → ExN [a] H G → D.nx [some (.ref a), some (vS l), some (.ref x), some (.ref y), some (.ref q), x5, x6, x7, x8, x9, some u, some sp] G) :
    t_b05_5 K D [some (.ref a), some (vS l), some (.ref x), some (.ref y), some (.ref q), x5, x6, x7, x8, x9, some u, some sp] H := by
  unfold t_b05_5
  obtain ⟨nx, rt, bk, ct⟩ := D
  have ll := isWord_len (isWord_least hl)
  have rest : ∀ H2, ExN [] H H2 → Tabs (tabs05 K) H2 → t_b05_6 K ⟨nx, rt, bk, ct⟩ [some (.ref a), some (vS l), some (.ref x), some (.ref y), some (.ref q), x5, x6, x7, x8, x9, some u, some sp] H2 := fun H2 e2 t2 => b05_6 hl hm (A.exN e2 t2) (hu.ex e2.wide) fun x8 x9 G AG eG => k x8 x9 G AG (e2.wide.trans eG)
  rcases hs.intU with ⟨i, rfl⟩ | hn
  · refine s_seq (s_same05 (w := sNothing) (s := .inl ds) A.t plain_05.2.2.2.2 (fun H1 e1 => body_ok fun E R kR => ?_) (fun H1 Q' e1 kk => ?_) rest)
    · have hx := A.rx.exN e1 (by simp)
      refine s_methE (s_var (v := .ref x) rfl (u_methRing hx (by decide +kernel) (s_cons (s_var (v := .int i) rfl (s_nil (.inl ⟨x, i, rfl, _, hx, ll.1, ll.2, kR _ _ Ex.rfl⟩))))))
    · refine s_call (s_cons (s_ifE (s_tB (s_call (s_cons (s_var (v := .int i) rfl (s_nil (u_wholeI (s_blQ (s_T rfl (s_cS (l := sNothing) (by decide +kernel) ?_)))))))))))
      exact s_cons (s_var (v := .int i) rfl (s_nil (u_due05 (thD (hd.ex e1.wide)) fun p H2 _ e2 hp => kk p H2 e2 hp)))
  · refine s_seq (s_same05 (w := s05Place) (s := .inl ds) A.t plain_05.2.1 (fun H1 e1 => body_bad (C := "InvalidPlace") (by simp [heards05]) (by decide) (thD (hd.ex e1.wide)) fun E R kR => ?_) (fun H1 Q' e1 kk => ?_) rest)
    · have hx := A.rx.exN e1 (by simp)
      refine s_methE (s_var (v := .ref x) rfl (u_methRing hx (by decide +kernel) (s_cons (s_var (v := sp) rfl (s_nil (.inr ⟨x, sp, rfl, hn H1 e1.wide, kR⟩))))))
    · refine s_call (s_cons (s_ifE (s_tB (s_call (s_cons (s_var (v := sp) rfl (s_nil (u_wholeN (hn H1 e1.wide) (s_blQ (s_F rfl (s_cS (l := s05Place) (by decide +kernel) ?_)))))))))))
      exact s_cons (s_var (v := sp) rfl (s_nil (u_due05 (thD (hd.ex e1.wide)) fun p H2 _ e2 hp => kk p H2 e2 hp)))
theorem b05_4 (hl : isWord l LET = true) (hm : isWord m LET = true) (A : At05 K a x y q l m H) (hu : ValD K [a] H u du) (hs : SpotAt K [a] H sp) (hd : ValD K [a] H sp ds) {x5 x6 x7 x8 x9 : Option V} {D : Ends}
    (k : ∀ x8 x9 G, At05 K a x y q l m G → ExN [a] H G → D.nx [some (.ref a), some (vS l), some (.ref x), some (.ref y), some (.ref q), x5, x6, x7, x8, x9, some u, some sp] G) :
    t_b05_4 K D [some (.ref a), some (vS l), some (.ref x), some (.ref y), some (.ref q), x5, x6, x7, x8, x9, some u, some sp] H := by
  unfold t_b05_4
  obtain ⟨nx, rt, bk, ct⟩ := D
  have ll := isWord_len (isWord_least hl)
  have rest : ∀ H2, ExN [] H H2 → Tabs (tabs05 K) H2 → t_b05_5 K ⟨nx, rt, bk, ct⟩ [some (.ref a), some (vS l), some (.ref x), some (.ref y), some (.ref q), x5, x6, x7, x8, x9, some u, some sp] H2 := fun H2 e2 t2 => b05_5 hl hm (A.exN e2 t2) (hu.ex e2.wide) (hs.ex e2.wide) (hd.ex e2.wide) fun x8 x9 G AG eG => k x8 x9 G AG (e2.wide.trans eG)
  rcases hs.all with ho | hn
  · refine s_seq (s_same05 (w := sNothing) (s := .inl ds) A.t plain_05.2.2.2.2 (fun H1 e1 => body_ok fun E R kR => ?_) (fun H1 Q' e1 kk => ?_) rest)
    · have hx := A.rx.exN e1 (by simp)
      obtain ⟨dx, fs, hi⟩ := rg_ins hx
      refine s_op (s_var (v := .ref x) rfl (s_var (v := sp) rfl ⟨x, dx, fs, rfl, hi, .inl ⟨x, sp, rfl, _, hx, ll.1, ll.2, ?_⟩⟩))
      rcases ho H1 e1.wide with ⟨i, rfl⟩ | ⟨p, i, j, rfl, h1, h2, h3⟩
      · exact .inl ⟨i, rfl, kR _ _ Ex.rfl⟩
      · exact .inr ⟨p, i, j, rfl, h1, h2, h3, kR _ _ Ex.rfl⟩
    · refine s_call (s_cons (s_call (s_cons (s_var (v := sp) rfl (s_nil ⟨sp, rfl, .inl ⟨ho H1 e1.wide, ?_⟩⟩)))))
      exact s_cons (s_var (v := sp) rfl (s_nil (u_due05 (thD (hd.ex e1.wide)) fun p H2 _ e2 hp => kk p H2 e2 hp)))
  · refine s_seq (s_same05 (w := s05Place) (s := .inl ds) A.t plain_05.2.1 (fun H1 e1 => body_bad (C := "InvalidPlace") (by simp [heards05]) (by decide) (thD (hd.ex e1.wide)) fun E R kR => ?_) (fun H1 Q' e1 kk => ?_) rest)
    · have hx := A.rx.exN e1 (by simp)
      obtain ⟨dx, fs, hi⟩ := rg_ins hx
      exact s_op (s_var (v := .ref x) rfl (s_var (v := sp) rfl ⟨x, dx, fs, rfl, hi, .inr ⟨x, sp, rfl, hn H1 e1.wide, kR⟩⟩))
    · refine s_call (s_cons (s_call (s_cons (s_var (v := sp) rfl (s_nil ⟨sp, rfl, .inr ⟨hn H1 e1.wide, ?_⟩⟩)))))
      exact s_cons (s_var (v := sp) rfl (s_nil (u_due05 (thD (hd.ex e1.wide)) fun p H2 _ e2 hp => kk p H2 e2 hp)))
theorem u_makeOK {l : List Nat} (hw : isWord l LET = true) (k : NewRing K H Q l) : MakeG (He.ga K "Ring") (spx_Ring_init K) [] E [vS l] H Q := fun x dx hx hdx ne => .inl (u_makeRing (E := E) hw k x dx hx hdx ne)
theorem ex_made {x dx : Addr} {o1 o2 : HO} (hx : H x = none) (hdx : H dx = none) : Ex [] H (L2.upd (L2.upd H dx o1) x o2) := fun b o _ hb => by
  rw [upd_ne (ne_of_none hb hx), upd_ne (ne_of_none hb hdx)]
  exact hb
theorem Rsd.ex0 {C f : Str} (e : Ex [] H H') (h : Rsd K H E C f v) : Rsd K H' E C f v := fun d H2 hd e2 hx => h d H2 (e.free hd) (e.trans e2) hx
theorem u_makeNo (hb : ∀ G, Ex [] H G → BadW K G LET v) (r : Rsd K H E "InvalidWord" "given" v) : MakeG (He.ga K "Ring") (spx_Ring_init K) [] E [v] H Q := fun x dx hx hdx ne => .inr ⟨x, v, rfl, hb _ (ex_made hx hdx), r.ex0 (ex_made hx hdx)⟩
theorem Told05.exN (e : ExN [] H H') (h : Told05 H p w s) : Told05 H' p w s := by
  obtain ⟨r, h1, h2⟩ := h
  exact ⟨r, e _ _ (by simp) h1 (fun _ z => by cases z), h2.exN e⟩
theorem lineU (h : ValD K [a] H v du) : (∃ l, v = vS l ∧ isWord l LET = true) ∨ ((∃ l, v = vS l ∧ l.length ≤ 10000 ∧ plain l ∧ isWord l LET = false) ∨ ∃ n, n ≠ "str" ∧ ∀ H', ExN [a] H H' → Kd K H' v n) := by
  rcases h.str with ⟨l, rfl, h1, h2⟩ | h
  · cases e : isWord l LET with
    | true => exact .inl ⟨l, rfl, e⟩
    | false => exact .inr (.inl ⟨l, rfl, h1, h2, e⟩)
  · exact .inr (.inr h)
def NoLine (K : PySem.W.Frag) (a : Addr) (H : Hp) (v : V) : Prop := (∃ l, v = vS l ∧ l.length ≤ 10000 ∧ plain l ∧ isWord l LET = false) ∨ ∃ n, n ≠ "str" ∧ ∀ H', ExN [a] H H' → Kd K H' v n
theorem NoLine.bad (e : ExN [a] H H') (h : NoLine K a H v) : BadW K H' LET v := by
  rcases h with ⟨l, rfl, h1, _, h2⟩ | ⟨n, hn, hk⟩
  · exact .inl ⟨l, rfl, h1, h2⟩
  · exact .inr ⟨n, hn, hk _ e⟩
theorem b05_3 (hl : isWord l LET = true) (hm : isWord m LET = true) (A : At05 K a x y q l m H) (hu : ValD K [a] H u du) (hs : SpotAt K [a] H sp) (hd : ValD K [a] H sp ds) {dv : PyData} (hv : ValD K [a] H v dv)
    (hr : ((∃ l, v = vS l ∧ isWord l LET = true) ∧ Told05 H r sNothing (due05 sNothing (.inl dv))) ∨ (NoLine K a H v ∧ Told05 H r s05Word (due05 s05Word (.inl dv)))) {x5 x8 x9 : Option V} {D : Ends}
    (k : ∀ x8 x9 G, At05 K a x y q l m G → ExN [a] H G → D.nx [some (.ref a), some (vS l), some (.ref x), some (.ref y), some (.ref q), x5, some v, some (.ref r), x8, x9, some u, some sp] G) :
    t_b05_3 K D [some (.ref a), some (vS l), some (.ref x), some (.ref y), some (.ref q), x5, some v, some (.ref r), x8, x9, some u, some sp] H := by
  unfold t_b05_3
  obtain ⟨nx, rt, bk, ct⟩ := D
  have rest : ∀ H2, ExN [] H H2 → Tabs (tabs05 K) H2 → t_b05_4 K ⟨nx, rt, bk, ct⟩ [some (.ref a), some (vS l), some (.ref x), some (.ref y), some (.ref q), x5, some v, some (.ref r), x8, x9, some u, some sp] H2 := fun H2 e2 t2 => b05_4 hl hm (A.exN e2 t2) (hu.ex e2.wide) (hs.ex e2.wide) (hd.ex e2.wide) fun x8 x9 G AG eG => k x8 x9 G AG (e2.wide.trans eG)
  rcases hr with ⟨⟨l2, rfl, hl2⟩, ht⟩ | ⟨hn, ht⟩
  · refine s_seq (s_same05 (w := sNothing) (s := .inl dv) A.t plain_05.2.2.2.2 (fun H1 e1 => body_ok fun E R kR => ?_) (fun H1 Q' e1 kk => s_var (v := .ref r) rfl (kk r H1 Ex.rfl (ht.exN e1))) rest)
    exact s_makeE (s_cons (s_var (v := vS l2) rfl (s_nil (u_makeOK hl2 fun z G _ e _ => kR _ _ e))))
  · refine s_seq (s_same05 (w := s05Word) (s := .inl dv) A.t plain_05.1 (fun H1 e1 => body_bad (C := "InvalidWord") (by simp [heards05]) (by decide) (thD (hv.ex e1.wide)) fun E R kR => ?_) (fun H1 Q' e1 kk => s_var (v := .ref r) rfl (kk r H1 Ex.rfl (ht.exN e1))) rest)
    exact s_makeE (s_cons (s_var (v := v) rfl (s_nil (u_makeNo (fun G e => hn.bad (e1.wide.trans (.of0 e))) kR))))
theorem b05_2 (hl : isWord l LET = true) (hm : isWord m LET = true) (A : At05 K a x y q l m H) (hu : ValD K [a] H u du) (hs : SpotAt K [a] H sp) (hd : ValD K [a] H sp ds) {dv : PyData} (hv : ValD K [a] H v dv) {x5 x7 x8 x9 : Option V} {D : Ends}
    (k : ∀ x7 x8 x9 G, At05 K a x y q l m G → ExN [a] H G → D.nx [some (.ref a), some (vS l), some (.ref x), some (.ref y), some (.ref q), x5, some v, x7, x8, x9, some u, some sp] G) :
    t_b05_2 K D [some (.ref a), some (vS l), some (.ref x), some (.ref y), some (.ref q), x5, some v, x7, x8, x9, some u, some sp] H := by
  unfold t_b05_2
  obtain ⟨nx, rt, bk, ct⟩ := D
  have rest : ∀ r H2, Ex [] H H2 → (((∃ l, v = vS l ∧ isWord l LET = true) ∧ Told05 H2 r sNothing (due05 sNothing (.inl dv))) ∨ (NoLine K a H2 v ∧ Told05 H2 r s05Word (due05 s05Word (.inl dv)))) → t_b05_3 K ⟨nx, rt, bk, ct⟩ [some (.ref a), some (vS l), some (.ref x), some (.ref y), some (.ref q), x5, some v, some (.ref r), x8, x9, some u, some sp] H2 := fun r H2 e2 hr => b05_3 hl hm (A.ex0 e2) (hu.ex (.of0 e2)) (hs.ex (.of0 e2)) (hd.ex (.of0 e2)) (hv.ex (.of0 e2)) hr fun x8 x9 G AG eG => k _ x8 x9 G AG ((ExN.of0 e2).trans eG)
  have nol : ∀ {H2 : Hp}, Ex [] H H2 → NoLine K a H v → NoLine K a H2 v := fun e h => h.imp (fun z => z) fun ⟨n, h1, h2⟩ => ⟨n, h1, fun G eG => h2 G ((ExN.of0 e).trans eG)⟩
  refine s_seq (s_asg (s_call (s_cons (s_ifE (s_tB (s_call (s_cons (s_var (v := v) rfl (s_cons (s_cS (l := LET) lit_abc (s_nil ?_)))))))))))
  rcases lineU hv with ⟨l2, rfl, hl2⟩ | hn
  · refine u_lwordS (by have := isWord_len hl2; omega) (fun c hc => let_plain (isWord_in hl2 c hc)) fun G eG => s_blQ ?_
    rw [hl2]
    refine s_T rfl (s_cS (l := sNothing) (by decide +kernel) (s_cons (s_var (v := vS l2) rfl (s_nil (u_due05 (thD (hv.ex (.of0 eG))) fun p H2 _ e2 hp => s_gName ?_)))))
    exact rest p H2 (eG.trans e2) (.inl ⟨⟨l2, rfl, hl2⟩, hp⟩)
  · have bad : ∀ {G : Hp}, Ex [] H G → sp_law_due05 K ([vS s05Word, v] ++ []) G (fun z H2 => gName 7 z [some (.ref a), some (vS l), some (.ref x), some (.ref y), some (.ref q), x5, some v, x7, x8, x9, some u, some sp] H2 (t_b05_3 K ⟨nx, rt, bk, ct⟩)) E0 := fun {G} eG => u_due05 (thD (hv.ex (.of0 eG))) fun p H2 _ e2 hp => s_gName (rest p H2 (eG.trans e2) (.inr ⟨nol (eG.trans e2) hn, hp⟩))
    rcases hn with ⟨l2, rfl, h1, h2, h3⟩ | ⟨n, h1, h2⟩
    · refine u_lwordS h1 h2 fun G eG => s_blQ ?_
      rw [h3]
      exact s_F rfl (s_cS (l := s05Word) (by decide +kernel) (s_cons (s_var (v := vS l2) rfl (s_nil (bad eG)))))
    · exact u_lwordN (h2 H ExN.refl) h1 (s_blQ (s_F rfl (s_cS (l := s05Word) (by decide +kernel) (s_cons (s_var (v := v) rfl (s_nil (bad Ex.rfl)))))))
theorem b05_1 (hl : isWord l LET = true) (hm : isWord m LET = true) (A : At05 K a x y q l m H) (hu : ValD K [a] H u du) (hs : SpotAt K [a] H sp) (hd : ValD K [a] H sp ds) {x5 x6 x7 x8 x9 : Option V} {D : Ends}
    (k : ∀ x6 x7 x8 x9 G, At05 K a x y q l m G → ExN [a] H G → D.nx [some (.ref a), some (vS l), some (.ref x), some (.ref y), some (.ref q), x5, x6, x7, x8, x9, some u, some sp] G) :
    t_b05_1 K D [some (.ref a), some (vS l), some (.ref x), some (.ref y), some (.ref q), x5, x6, x7, x8, x9, some u, some sp] H := by
  unfold t_b05_1
  obtain ⟨nx, rt, bk, ct⟩ := D
  have pl := A.pl
  walk_at "go"
  rename_i d H1 d0 d1 e1 p1
  have A1 := A.exP e1 p1
  refine s_2 (fun hb => ?_) (fun hb => ?_)
  · refine s_var (v := u) rfl (s_gName ?_)
    exact b05_2 hl hm A1 (hu.ex (.of e1)) (hs.ex (.of e1)) (hd.ex (.of e1)) (hu.ex (.of e1)) fun x7 x8 x9 G AG eG => k _ x7 x8 x9 G AG ((ExN.of e1).trans eG)
  · refine s_call (s_cons (s_var (v := .ref a) rfl (s_cons (s_var (v := vS l) rfl (s_nil (u_spoilt05 hl p1 fun w H2 w1 w2 e2 p2 => s_gName ?_))))))
    have e12 := e1.trans e2
    exact b05_2 hl hm (A1.exP e2 p2) (hu.ex (.of e12)) (hs.ex (.of e12)) (hd.ex (.of e12)) (.str_ w w1 w2) fun x7 x8 x9 G AG eG => k _ x7 x8 x9 G AG ((ExN.of e12).trans eG)
theorem b05_0 (hl : isWord l LET = true) (hm : isWord m LET = true) (A : At05 K a x y q l m H) {x5 x6 x7 x8 x9 x10 x11 : Option V} {D : Ends}
    (k : ∀ x6 x7 x8 x9 x10 x11 G, At05 K a x y q l m G → ExN [a] H G → D.nx [some (.ref a), some (vS l), some (.ref x), some (.ref y), some (.ref q), x5, x6, x7, x8, x9, x10, x11] G) :
    t_b05_0 K D [some (.ref a), some (vS l), some (.ref x), some (.ref y), some (.ref q), x5, x6, x7, x8, x9, x10, x11] H := by
  unfold t_b05_0
  obtain ⟨nx, rt, bk, ct⟩ := D
  refine s_seq (s_asg (s_tup (s_cons (s_call (s_cons (s_var (v := .ref a) rfl (s_nil (u_odd A.pl fun u H1 e1 p1 hu => ?_))))))))
  have A1 := A.exP e1 p1
  obtain ⟨du, hdu⟩ := OddAt.val (K := K) hu
  refine s_cons (s_call (s_cons (s_var (v := .ref a) rfl (s_nil (u_spot05 p1 fun sp ds H2 e2 p2 hs hd => ?_)))))
  have A2 := A1.exP e2 p2
  have hu2 := hdu.ex (.of e2)
  have e12 := e1.trans e2
  refine s_nil (s_alloc (by show 2 ≤ sizeLine; decide) fun b H3 nb e3 hb => ?_)
  walk_at "go"
  exact b05_1 hl hm (A2.ex0 e3) (hu2.ex (.of0 e3)) (hs.ex (.of0 e3)) (hd.ex (.of0 e3)) fun x6 x7 x8 x9 G AG eG => k x6 x7 x8 x9 _ _ G AG (((ExN.of e12).trans (.of0 e3)).trans eG)
end
end WB
namespace WB
open PySem PySem.Spec PyProof.Rows L2
local macro_rules | `(tactic| walk_at "lit") => `(tactic| first | exact lit_abc | exact lit_empty)
local macro_rules | `(tactic| walk_at "nm") => `(tactic| focus first | exact List.not_mem_nil | (simp only [List.mem_singleton]; first | assumption | (exact Ne.symm (by assumption)) | (intro hz; subst hz; simp_all; done)))
local macro_rules | `(tactic| walk_at "hp") => `(tactic| first | assumption | (apply Ex.get0 (by assumption); walk_at "hp") | (apply Ex.get (by assumption); (walk_at "nm"); (walk_at "hp")))
local macro_rules | `(tactic| walk_at "sq") => `(tactic| first | assumption | (apply SqL.of; walk_at "hp") | (apply Ex.sqL (by assumption); (walk_at "nm"); (walk_at "sq")))
local macro_rules | `(tactic| walk_at "sqt") => `(tactic| first | assumption | (apply SqT.of; walk_at "hp") | (apply Ex.sqT (by assumption); (walk_at "nm"); (walk_at "sqt")))
local macro_rules | `(tactic| walk_at "sz") => `(tactic| focus ((with_reducible refine Nat.le_trans (m := 100000) ?_ (by decide)); first | omega | (simp; done) | (simp; omega)))
local macro_rules | `(tactic| walk_at "mul") => `(tactic| first | exact Or.inr ⟨by omega, by omega⟩ | exact Or.inl ⟨by omega, by omega⟩)
local macro_rules | `(tactic| walk_at "pool") => `(tactic| first | assumption | (apply PoolAt.ex (by assumption); (walk_at "nm"); (walk_at "pool")))
local macro_rules | `(tactic| walk_at "ring") => `(tactic| first | assumption | (apply RingAt.ex (by assumption); (walk_at "nm"); (walk_at "ring")))
local macro_rules | `(tactic| walk_at "st") => `(tactic| first
  | with_reducible refine s_seq ?_
  | with_reducible refine s_asg ?_
  | with_reducible refine s_gName ?_
  | with_reducible refine s_ret ?_
  | with_reducible refine s_ifS ?_
  | with_reducible refine s_next ?_
  | with_reducible refine s_op ?_
  | ((with_reducible apply s_var); exact rfl)
  | ((with_reducible apply s_cS); (walk_at "lit"))
  | with_reducible refine s_c ?_
  | with_reducible refine s_cb ?_
  | with_reducible refine s_cons ?_
  | with_reducible refine s_nil ?_
  | with_reducible refine s_un ?_
  | with_reducible refine s_call ?_
  | with_reducible refine s_test ?_
  | with_reducible refine s_tB ?_
  | with_reducible refine s_blQ ?_
  | with_reducible refine s_not ?_
  | with_reducible refine s_and ?_
  | with_reducible refine s_or ?_
  | with_reducible refine s_andV ?_
  | with_reducible refine s_orV ?_
  | with_reducible refine s_notV ?_
  | with_reducible refine s_ifE ?_
  | with_reducible refine s_chain ?_
  | ((with_reducible refine s_T ?_ ?_); (with_reducible exact rfl))
  | with_reducible refine s_nT ?_
  | with_reducible refine s_nF ?_
  | ((with_reducible refine s_F ?_ ?_); (with_reducible exact rfl))
  | ((with_reducible refine s_T ?_ ?_); assumption)
  | ((with_reducible refine s_F ?_ ?_); assumption)
  | ((with_reducible refine s_nB ?_ ?_); assumption)
  | ((with_reducible refine s_nA ?_ ?_); assumption)
  | ((with_reducible refine s_Td ?_ ?_); omega)
  | ((with_reducible refine s_Fd ?_ ?_); omega)
  | ((with_reducible refine s_nTd ?_ ?_); omega)
  | ((with_reducible refine s_nFd ?_ ?_); omega)
  | with_reducible refine s_sfld ?_
  | with_reducible refine s_addI ?_
  | with_reducible refine s_subI ?_
  | ((with_reducible refine s_mulI ?_ ?_); (walk_at "mul"))
  | ((with_reducible refine s_divI ?_ ?_); exact ⟨by omega, by omega⟩)
  | ((with_reducible refine s_modI ?_ ?_); omega)
  | ((with_reducible refine s_powI ?_ ?_); exact ⟨by decide, by decide, by decide⟩)
  | with_reducible refine s_ltI ?_
  | with_reducible refine s_leI ?_
  | with_reducible refine s_gtI ?_
  | with_reducible refine s_geI ?_
  | with_reducible refine s_negI ?_
  | with_reducible refine s_absI ?_
  | with_reducible refine s_intI ?_
  | with_reducible refine s_min2 ?_
  | with_reducible refine s_max2 ?_
  | with_reducible refine s_eqI ?_
  | with_reducible refine s_neI ?_
  | with_reducible refine s_eqS ?_
  | with_reducible refine s_neS ?_
  | with_reducible refine s_inSg ?_
  | with_reducible refine s_notInSg ?_
  | ((with_reducible refine s_addS ?_ ?_); (walk_at "sz"))
  | ((with_reducible refine s_lenS ?_ ?_); (walk_at "sz"))
  | ((with_reducible apply s_lenL); (walk_at "sq"))
  | ((with_reducible apply s_lenT); (walk_at "sqt"))
  | ((with_reducible apply s_ixL); (walk_at "sq"); exact rfl)
  | ((with_reducible apply s_ixT); (walk_at "sqt"); exact rfl)
  | with_reducible refine s_gSub ?_
  | ((with_reducible apply s_setL); (walk_at "hp"); (exact rfl); (intro _ _ _))
  | ((with_reducible refine s_alloc ?_ ?_); (walk_at "sz"); (intro _ _ _ _ _))
  | ((with_reducible refine s_divmod ?_ ?_); (exact ⟨by omega, PyProof.noPylong_small (by omega)⟩); (intro _ _ _ _ _))
  | ((with_reducible apply s_gTup); (walk_at "sqt"); (exact rfl))
  | ((with_reducible apply s_gLst); (walk_at "sq"); (exact rfl))
  | with_reducible refine s_gCons ?_
  | with_reducible refine s_gNil ?_
  | with_reducible refine s_lc ?_
  | ((with_reducible apply s_cat); (walk_at "hp"); (walk_at "hp"); (walk_at "sz"); (intro _ _ _ _ _))
  | ((with_reducible apply s_slL); (walk_at "sq"); (intro _ _ _ _ _))
  | with_reducible refine s_for ?_
  | with_reducible refine s_rng1 ?_
  | ((with_reducible refine s_rng1i ?_ ?_); (constructor <;> omega))
  | with_reducible refine s_rng2 ?_
  | ((with_reducible refine s_rng2i ?_ ?_); (refine ⟨?_, ?_, ?_, ?_⟩ <;> omega))
  | with_reducible refine s_iStr ?_
  | with_reducible refine s_iStrS ?_
  | with_reducible refine s_iList ?_
  | ((with_reducible apply s_iListA); (walk_at "sq"))
  | with_reducible refine s_iTup ?_
  | ((with_reducible apply s_iTupA); (walk_at "sqt"))
  | with_reducible refine s_sl ?_
  | with_reducible refine s_noPart ?_
  | with_reducible refine s_part ?_
  | with_reducible refine s_int1 ?_
  | ((with_reducible refine s_slS ?_ ?_); (walk_at "sz"))
  | with_reducible refine s_tup ?_
  | with_reducible refine s_lst ?_
  | with_reducible refine s_par ?_
  | with_reducible refine s_pair ?_
  | with_reducible refine s_M1 ?_
  | with_reducible refine s_isStr ?_
  | with_reducible refine s_revS ?_
  | ((with_reducible refine s_revS1 ?_ ?_); (walk_at "sz"))
  | with_reducible refine s_fldE ?_
  | with_reducible refine s_propE ?_
  | ((with_reducible refine u_draw ?_ ?_ ?_ ?_); omega; omega; (walk_at "pool"); (intro _ _ _ _ _ _))
  | ((with_reducible refine u_pool ?_); (intro _ _ _ _ _))
  | with_reducible refine u_is_integer ?_
  | with_reducible refine s_isiII ?_
  | with_reducible refine s_isiIB ?_
  | with_reducible refine s_isiSS ?_
  | ((with_reducible apply u_fldRing); assumption; (walk_at "ring"))
  | ((with_reducible apply u_textP); (walk_at "ring"))
  | ((with_reducible apply u_strRing); (walk_at "ring"))
  | ((with_reducible apply u_eqRing); (walk_at "ring"); (walk_at "ring"))
  | ((with_reducible apply u_isiRing); assumption; (walk_at "ring"))
  | ((with_reducible refine u_is_word ?_ ?_); omega; (intro _ _))
  | ((with_reducible refine u_turnings ?_ ?_); omega; (intro _ _ _ _ _))
  | with_reducible refine s_makeE ?_
  | with_reducible refine s_methE ?_)
local macro_rules | `(tactic| walk_at "go") => `(tactic| repeat (walk_at "st"))
local macro_rules | `(tactic| walk_at "exs") => `(tactic| first | exact Ex.rfl | assumption | (apply Ex.snoc (by assumption); walk_at "exs") | (apply Ex.snocW (by assumption); walk_at "exs"))
local macro_rules | `(tactic| walk_at "kind") => `(tactic| first | assumption | (apply KindAt.ex0 (by assumption); (walk_at "kind")) | (apply KindAt.exP (by assumption) (by assumption); (walk_at "kind")))
local macro_rules | `(tactic| walk_at "st") => `(tactic| first
  | with_reducible refine s_lenSet ?_
  | with_reducible refine s_drop ?_
  | with_reducible refine s_bm ?_
  | with_reducible refine s_notN ?_
  | with_reducible refine s_isN ?_
  | ((with_reducible apply s_tyL); (walk_at "hp"))
  | with_reducible refine s_enumT ?_
  | ((with_reducible apply s_enumTA); (walk_at "sqt"))
  | with_reducible refine s_lc2 ?_)
def t_law_is_word (K : PySem.W.Frag) : TS :=
  (tSeq (tIfS (tOr (tNot (tB (tCB (rIsi K) (tCons (tVar 0) (tCons (tC (.ty "str")) tNil))))) (tOr (tTest (tOp rEq (tVar 0) (tC (.str "")))) (tTest (tOp rGtI (tCB (rLenV K) (tCons (tVar 0) tNil)) (tC (.int 600)))))) (tRet (tC (.bl false))) tNext)
  (tRet (tOp (rEqD K) (tLc (iStr (tVar 0)) (gName 2) (tTest (tOp rNotInSg (tVar 2) (tVar 1))) (tVar 2) [2]) (tLst tNil))))
section
variable {K : PySem.W.Frag} {vs : List V} {H : Hp} {Q : VK} {E : XK}
theorem pure_law_is_word (h : sp_law_is_word K vs H Q E) : t_law_is_word K (E1 Q) (start ["_law_thing", "_law_abc", "_law_mark"] vs) H := by
  obtain ⟨v, s, rfl, h⟩ := h
  show t_law_is_word K (E1 Q) [some v, some (vS s), none] H
  unfold t_law_is_word
  rcases h with ⟨l, rfl, hl, hpl, k⟩ | ⟨n, hk, hn, k⟩
  rotate_left
  · walk_at "go"
    refine s_isiK hk (b := false) (kitB_str hk.2 hn) ?_
    walk_at "go"
    exact k
  walk_at "go"
  refine s_2 (fun hb => ?_) (fun hb => ?_)
  · have hb := of_decide_eq_true hb
    walk_at "go"
    subst hb
    exact k _ Ex.rfl
  walk_at "go"
  have hb := of_decide_eq_false hb
  refine s_2 (fun hb2 => ?_) (fun hb2 => ?_)
  · have hb2 := of_decide_eq_true hb2
    walk_at "go"
    have e : isWord l s = false := by
      unfold isWord
      rw [decide_eq_false (by omega)]
      rfl
    rw [← e]
    exact k _ Ex.rfl
  have hb2 := of_decide_eq_false hb2
  walk_at "go"
  refine lc_mapS (by omega) (fun c => !decide (c ∈ s)) (fun c => vS [c]) (fun c H1 C1 C0 hc e1 k1 k0 => ?_) (fun D H1 hD e1 hd => ?_)
  · walk_at "go"
    refine s_2 (fun hb => ?_) (fun hb => ?_)
    · walk_at "go"
      exact k1 _ Ex.rfl hb
    · exact k0 _ Ex.rfl hb
  walk_at "go"
  rename_i p2 H2 n2 e2 h2
  refine s_eqLSnil (ls := (l.filter fun c => !decide (c ∈ s)).map fun c => [c]) (by rw [List.map_map]; exact SqL.of (e2.get0 hd)) (SqL.of h2) ?_ ?_
  · intro m hm
    obtain ⟨c, hc, rfl⟩ := List.mem_map.mp hm
    intro x hx
    rw [List.mem_singleton.mp hx]
    exact hpl c (List.mem_filter.mp hc).1
  · have e : ((l.filter fun c => !decide (c ∈ s)).map fun c => [c]).isEmpty = isWord l s := by
      unfold isWord
      rw [decide_eq_true ⟨by have : l.length ≠ 0 := fun z => hb (List.length_eq_zero_iff.mp z); omega, by omega⟩, Bool.true_and, List.isEmpty_map, Bool.eq_iff_iff, List.isEmpty_iff, List.filter_eq_nil_iff, List.all_eq_true]
      constructor
      · intro h c hc
        have := h c hc
        simpa using this
      · intro h c hc
        have := h c hc
        simpa using this
    rw [e]
    exact k _ (e1.trans e2)
end
end WB
namespace WB
open PySem PySem.Spec PyProof.Rows L2 LamX
theorem l05z_110_111_116_104_105_110_103 : ("nothing" : Str) = S [110, 111, 116, 104, 105, 110, 103] := by decide +kernel
theorem l05z_119_111_114_100 : ("word" : Str) = S [119, 111, 114, 100] := by decide +kernel
theorem l05z_112_108_97_99_101 : ("place" : Str) = S [112, 108, 97, 99, 101] := by decide +kernel
theorem l05z_114_105_110_103 : ("ring" : Str) = S [114, 105, 110, 103] := by decide +kernel
theorem l05z_97_98 : ("ab" : Str) = S [97, 98] := by decide +kernel
theorem l05z_98_97 : ("ba" : Str) = S [98, 97] := by decide +kernel
theorem l05z_97_98_99 : ("abc" : Str) = S [97, 98, 99] := by decide +kernel
theorem l05z_99 : ("c" : Str) = S [99] := by decide +kernel
local macro_rules | `(tactic| walk_at "lit") => `(tactic| first | exact l05z_110_111_116_104_105_110_103 | exact l05z_119_111_114_100 | exact l05z_112_108_97_99_101 | exact l05z_114_105_110_103 | exact l05z_97_98 | exact l05z_98_97 | exact l05z_97_98_99 | exact l05z_99)
local macro_rules | `(tactic| walk_at "lit") => `(tactic| first | exact lit_abc | exact lit_empty)
local macro_rules | `(tactic| walk_at "nm") => `(tactic| focus first | exact List.not_mem_nil | (simp only [List.mem_singleton]; first | assumption | (exact Ne.symm (by assumption)) | (intro hz; subst hz; simp_all; done)))
local macro_rules | `(tactic| walk_at "hp") => `(tactic| first | assumption | (apply Ex.get0 (by assumption); walk_at "hp") | (apply Ex.get (by assumption); (walk_at "nm"); (walk_at "hp")))
local macro_rules | `(tactic| walk_at "sq") => `(tactic| first | assumption | (apply SqL.of; walk_at "hp") | (apply Ex.sqL (by assumption); (walk_at "nm"); (walk_at "sq")))
local macro_rules | `(tactic| walk_at "sqt") => `(tactic| first | assumption | (apply SqT.of; walk_at "hp") | (apply Ex.sqT (by assumption); (walk_at "nm"); (walk_at "sqt")))
local macro_rules | `(tactic| walk_at "sz") => `(tactic| focus ((with_reducible refine Nat.le_trans (m := 100000) ?_ (by decide)); first | omega | (simp; done) | (simp; omega)))
local macro_rules | `(tactic| walk_at "mul") => `(tactic| first | exact Or.inr ⟨by omega, by omega⟩ | exact Or.inl ⟨by omega, by omega⟩)
local macro_rules | `(tactic| walk_at "pool") => `(tactic| first | assumption | (apply PoolAt.ex (by assumption); (walk_at "nm"); (walk_at "pool")))
local macro_rules | `(tactic| walk_at "ring") => `(tactic| first | assumption | (apply RingAt.ex (by assumption); (walk_at "nm"); (walk_at "ring")))
local macro_rules | `(tactic| walk_at "st") => `(tactic| first
  | with_reducible refine s_seq ?_
  | with_reducible refine s_asg ?_
  | with_reducible refine s_gName ?_
  | with_reducible refine s_ret ?_
  | with_reducible refine s_ifS ?_
  | with_reducible refine s_next ?_
  | with_reducible refine s_op ?_
  | ((with_reducible apply s_var); exact rfl)
  | ((with_reducible apply s_cS); (walk_at "lit"))
  | with_reducible refine s_c ?_
  | with_reducible refine s_cb ?_
  | with_reducible refine s_cons ?_
  | with_reducible refine s_nil ?_
  | with_reducible refine s_un ?_
  | with_reducible refine s_call ?_
  | with_reducible refine s_test ?_
  | with_reducible refine s_tB ?_
  | with_reducible refine s_blQ ?_
  | with_reducible refine s_not ?_
  | with_reducible refine s_and ?_
  | with_reducible refine s_or ?_
  | with_reducible refine s_andV ?_
  | with_reducible refine s_orV ?_
  | with_reducible refine s_notV ?_
  | with_reducible refine s_ifE ?_
  | with_reducible refine s_chain ?_
  | ((with_reducible refine s_T ?_ ?_); (with_reducible exact rfl))
  | with_reducible refine s_nT ?_
  | with_reducible refine s_nF ?_
  | ((with_reducible refine s_F ?_ ?_); (with_reducible exact rfl))
  | ((with_reducible refine s_T ?_ ?_); assumption)
  | ((with_reducible refine s_F ?_ ?_); assumption)
  | ((with_reducible refine s_nB ?_ ?_); assumption)
  | ((with_reducible refine s_nA ?_ ?_); assumption)
  | ((with_reducible refine s_Td ?_ ?_); omega)
  | ((with_reducible refine s_Fd ?_ ?_); omega)
  | ((with_reducible refine s_nTd ?_ ?_); omega)
  | ((with_reducible refine s_nFd ?_ ?_); omega)
  | with_reducible refine s_sfld ?_
  | with_reducible refine s_addI ?_
  | with_reducible refine s_subI ?_
  | ((with_reducible refine s_mulI ?_ ?_); (walk_at "mul"))
  | ((with_reducible refine s_divI ?_ ?_); exact ⟨by omega, by omega⟩)
  | ((with_reducible refine s_modI ?_ ?_); omega)
  | ((with_reducible refine s_powI ?_ ?_); exact ⟨by decide, by decide, by decide⟩)
  | with_reducible refine s_ltI ?_
  | with_reducible refine s_leI ?_
  | with_reducible refine s_gtI ?_
  | with_reducible refine s_geI ?_
  | with_reducible refine s_negI ?_
  | with_reducible refine s_absI ?_
  | with_reducible refine s_intI ?_
  | with_reducible refine s_min2 ?_
  | with_reducible refine s_max2 ?_
  | with_reducible refine s_eqI ?_
  | with_reducible refine s_neI ?_
  | with_reducible refine s_eqS ?_
  | with_reducible refine s_neS ?_
  | with_reducible refine s_inSg ?_
  | with_reducible refine s_notInSg ?_
  | ((with_reducible refine s_addS ?_ ?_); (walk_at "sz"))
  | ((with_reducible refine s_lenS ?_ ?_); (walk_at "sz"))
  | ((with_reducible apply s_lenL); (walk_at "sq"))
  | ((with_reducible apply s_lenT); (walk_at "sqt"))
  | ((with_reducible apply s_ixL); (walk_at "sq"); exact rfl)
  | ((with_reducible apply s_ixT); (walk_at "sqt"); exact rfl)
  | with_reducible refine s_gSub ?_
  | ((with_reducible apply s_setL); (walk_at "hp"); (exact rfl); (intro _ _ _))
  | ((with_reducible refine s_alloc ?_ ?_); (walk_at "sz"); (intro _ _ _ _ _))
  | ((with_reducible refine s_divmod ?_ ?_); (exact ⟨by omega, PyProof.noPylong_small (by omega)⟩); (intro _ _ _ _ _))
  | ((with_reducible apply s_gTup); (walk_at "sqt"); (exact rfl))
  | ((with_reducible apply s_gLst); (walk_at "sq"); (exact rfl))
  | with_reducible refine s_gCons ?_
  | with_reducible refine s_gNil ?_
  | with_reducible refine s_lc ?_
  | ((with_reducible apply s_cat); (walk_at "hp"); (walk_at "hp"); (walk_at "sz"); (intro _ _ _ _ _))
  | ((with_reducible apply s_slL); (walk_at "sq"); (intro _ _ _ _ _))
  | with_reducible refine s_for ?_
  | with_reducible refine s_rng1 ?_
  | ((with_reducible refine s_rng1i ?_ ?_); (constructor <;> omega))
  | with_reducible refine s_rng2 ?_
  | ((with_reducible refine s_rng2i ?_ ?_); (refine ⟨?_, ?_, ?_, ?_⟩ <;> omega))
  | with_reducible refine s_iStr ?_
  | with_reducible refine s_iStrS ?_
  | with_reducible refine s_iList ?_
  | ((with_reducible apply s_iListA); (walk_at "sq"))
  | with_reducible refine s_iTup ?_
  | ((with_reducible apply s_iTupA); (walk_at "sqt"))
  | with_reducible refine s_sl ?_
  | with_reducible refine s_noPart ?_
  | with_reducible refine s_part ?_
  | with_reducible refine s_int1 ?_
  | ((with_reducible refine s_slS ?_ ?_); (walk_at "sz"))
  | with_reducible refine s_tup ?_
  | with_reducible refine s_lst ?_
  | with_reducible refine s_par ?_
  | with_reducible refine s_pair ?_
  | with_reducible refine s_M1 ?_
  | with_reducible refine s_isStr ?_
  | with_reducible refine s_revS ?_
  | ((with_reducible refine s_revS1 ?_ ?_); (walk_at "sz"))
  | with_reducible refine s_fldE ?_
  | with_reducible refine s_propE ?_
  | ((with_reducible refine u_draw ?_ ?_ ?_ ?_); omega; omega; (walk_at "pool"); (intro _ _ _ _ _ _))
  | ((with_reducible refine u_pool ?_); (intro _ _ _ _ _))
  | with_reducible refine u_is_integer ?_
  | with_reducible refine s_isiII ?_
  | with_reducible refine s_isiIB ?_
  | with_reducible refine s_isiSS ?_
  | ((with_reducible apply u_fldRing); assumption; (walk_at "ring"))
  | ((with_reducible apply u_textP); (walk_at "ring"))
  | ((with_reducible apply u_strRing); (walk_at "ring"))
  | ((with_reducible apply u_eqRing); (walk_at "ring"); (walk_at "ring"))
  | ((with_reducible apply u_isiRing); assumption; (walk_at "ring"))
  | ((with_reducible refine u_is_word ?_ ?_); omega; (intro _ _))
  | ((with_reducible refine u_turnings ?_ ?_); omega; (intro _ _ _ _ _))
  | with_reducible refine s_makeE ?_
  | with_reducible refine s_methE ?_)
local macro_rules | `(tactic| walk_at "go") => `(tactic| repeat (walk_at "st"))
local macro_rules | `(tactic| walk_at "exs") => `(tactic| first | exact Ex.rfl | assumption | (apply Ex.snoc (by assumption); walk_at "exs") | (apply Ex.snocW (by assumption); walk_at "exs"))
local macro_rules | `(tactic| walk_at "st") => `(tactic| first
  | with_reducible refine s_dcT ?_
  | with_reducible refine s_dc ?_)
def t_law_right05 (K : PySem.W.Frag) : TS :=
  (tSeq (tAsg (tCall (sp_law_long K) [] E0 (tCons (tVar 0) (tCons (tC (.int 40)) tNil))) (gName 1))
  (tSeq (tAsg (tTup (tCons (tMake (He.ga K "Ring") (sp_Ring_init K) [] E0 (tCons (tVar 1) tNil)) (tCons (tMake (He.ga K "Ring") (sp_Ring_init K) [] E0 (tCons (tCall (sp_law_long K) [] E0 (tCons (tVar 0) (tCons (tC (.int 40)) tNil))) tNil)) tNil))) (gTup K 2 (gCons (gName 2) (gCons (gName 3) gNil))))
  (tSeq (tAsg (tLst (tCons (tProp (He.ga K "Ring") (sp_Ring_text K) [] E0 (tVar 2)) (tCons (tProp (He.ga K "Ring") (sp_Ring_text K) [] E0 (tVar 3)) tNil))) (gName 4))
  (tSeq (tFor (iRng1 (tCons (tC (.int 5)) tNil)) (gName 5) (tSeq (tAsg (tTup (tCons (tCall (sp_law_odd K) [] E0 (tCons (tVar 0) tNil)) (tCons (tCall (sp_law_spot05 K) [] E0 (tCons (tVar 0) tNil)) tNil))) (gTup K 2 (gCons (gName 10) (gCons (gName 11) gNil))))
  (tSeq (tAsg (tIf (tTest (tOp rEq (tCall (sp_law_draw K) [] E0 (tCons (tVar 0) (tCons (tC (.int 3)) tNil))) (tC (.int 0)))) (tVar 10) (tCall (sp_law_spoilt05 K) [] E0 (tCons (tVar 0) (tCons (tVar 1) tNil)))) (gName 6))
  (tSeq (tAsg (tCall (sp_law_due05 K) [] E0 (tCons (tIf (tB (tCall (sp_law_is_word K) [] E0 (tCons (tVar 6) (tCons (tC (.str "abcdefghijklmnopqrstuvwxyz")) tNil)))) (tC (.str "nothing")) (tC (.str "word"))) (tCons (tVar 6) tNil))) (gName 7))
  (tSeq (tIfS (tTest (tOp (rNeS K) (tLam (tabs05 K) (TT_law_heard05 K) (fun E => (tMake (He.ga K "Ring") (spx_Ring_init K) [] E (tCons (tVar 6) tNil)))) (tVar 7))) (tRet (tC (.bl false))) tNext)
  (tSeq (tIfS (tTest (tOp (rNeS K) (tLam (tabs05 K) (TT_law_heard05 K) (fun E => (tOp (rIxO (He.ga K "Ring") (spx_Ring_getitem K) E) (tVar 2) (tVar 11)))) (tCall (sp_law_due05 K) [] E0 (tCons (tCall (sp_law_spot_due K) [] E0 (tCons (tVar 11) tNil)) (tCons (tVar 11) tNil))))) (tRet (tC (.bl false))) tNext)
  (tSeq (tIfS (tTest (tOp (rNeS K) (tLam (tabs05 K) (TT_law_heard05 K) (fun E => (tMeth (He.ga K "Ring") "turned" (spx_Ring_turned K) [] E (tVar 2) (tCons (tVar 11) tNil)))) (tCall (sp_law_due05 K) [] E0 (tCons (tIf (tB (tCall (sp_law_wholeK K) [] E0 (tCons (tVar 11) tNil))) (tC (.str "nothing")) (tC (.str "place"))) (tCons (tVar 11) tNil))))) (tRet (tC (.bl false))) tNext)
  (tSeq (tAsg (tOp rSubI (tOp rAddI (tOp rDivI (tC (.int 600)) (tCB (rLenV K) (tCons (tVar 1) tNil))) (tCall (sp_law_draw K) [] E0 (tCons (tVar 0) (tCons (tC (.int 3)) tNil)))) (tC (.int 1))) (gName 8))
  (tSeq (tIfS (tTest (tOp (rNeS K) (tLam (tabs05 K) (TT_law_heard05 K) (fun E => (tOp (rBinV (He.ga K "Ring") (spx_Ring_mul K) E K) (tVar 2) (tVar 8)))) (tCall (sp_law_due05 K) [] E0 (tCons (tCall (sp_law_times_due K) [] E0 (tCons (tVar 8) (tCons (tCB (rLenV K) (tCons (tVar 1) tNil)) tNil))) (tCons (tVar 8) tNil))))) (tRet (tC (.bl false))) tNext)
  (tSeq (tIfS (tTest (tOp (rNeS K) (tLam (tabs05 K) (TT_law_heard05 K) (fun E => (tOp (rBinV (He.ga K "Ring") (spx_Ring_mul K) E K) (tVar 2) (tVar 10)))) (tCall (sp_law_due05 K) [] E0 (tCons (tCall (sp_law_times_due K) [] E0 (tCons (tVar 10) (tCons (tCB (rLenV K) (tCons (tVar 1) tNil)) tNil))) (tCons (tVar 10) tNil))))) (tRet (tC (.bl false))) tNext)
  (tSeq (tIfS (tTest (tOp (rNeS K) (tLam (tabs05 K) (TT_law_heard05 K) (fun E => (tOp (rBinV (He.ga K "Ring") (spx_Ring_add K) E K) (tVar 2) (tVar 10)))) (tCall (sp_law_due05 K) [] E0 (tCons (tC (.str "ring")) (tCons (tVar 10) tNil))))) (tRet (tC (.bl false))) tNext)
  (tSeq (tAsg (tIf (tTest (tOp rLeI (tOp rAddI (tCB (rLenV K) (tCons (tOp (rIxL K) (tVar 4) (tC (.int 0))) tNil)) (tCB (rLenV K) (tCons (tOp (rIxL K) (tVar 4) (tC (.int 1))) tNil))) (tC (.int 600)))) (tC (.str "nothing")) (tC (.str "word"))) (gName 9))
  (tIfS (tOr (tTest (tOp (rNeS K) (tLam (tabs05 K) (TT_law_heard05 K) (fun E => (tOp (rBinO (He.ga K "Ring") (spx_Ring_add K) E) (tVar 2) (tVar 3)))) (tCall (sp_law_due05 K) [] E0 (tCons (tVar 9) (tCons (tVar 3) tNil))))) (tTest (tOp (rNeS K) (tLst (tCons (tProp (He.ga K "Ring") (sp_Ring_text K) [] E0 (tVar 2)) (tCons (tProp (He.ga K "Ring") (sp_Ring_text K) [] E0 (tVar 3)) tNil))) (tVar 4)))) (tRet (tC (.bl false))) tNext)))))))))))))
  (tRet (tC (.bl true)))))))
def t_l05_5 (K : PySem.W.Frag) : TS :=
  (tRet (tAndV (tOp rEq (tCB (rLenO (He.ga K "Ring") (sp_Ring_len K) E0) (tCons (tOp (rBinI (He.ga K "Ring") (sp_Ring_mul K) E0) (tMake (He.ga K "Ring") (sp_Ring_init K) [] E0 (tCons (tC (.str "ab")) tNil)) (tC (.int 300))) tNil)) (tC (.int 600))) (tOp (rEqD K) (tLam (tabs05 K) (TT_law_heard05 K) (fun E => (tOp (rBinI (He.ga K "Ring") (spx_Ring_mul K) E) (tMake (He.ga K "Ring") (spx_Ring_init K) [] E (tCons (tC (.str "ab")) tNil)) (tC (.int 301))))) (tLst (tCons (tC (.str "word")) (tCons (tCall (sp_law_faceR K 6) [] E0 (tCons (tC (.int 301)) tNil)) tNil))))))
def t_l05_4 (K : PySem.W.Frag) : TS :=
  (tSeq (tIfS (tOr (tTest (tOp (rNeR K (He.ga K "Ring") (RingEq K)) (tLam (tabs05 K) (TT_law_heard05 K) (fun E => (tOp (rBinI (He.ga K "Ring") (spx_Ring_mul K) E) (tMake (He.ga K "Ring") (spx_Ring_init K) [] E (tCons (tC (.str "ab")) tNil)) (tC (.int 300))))) (tLst (tCons (tC (.str "nothing")) (tCons (tCall (sp_law_faceR K 6) [] E0 (tCons (tC .non) tNil)) tNil))))) (tTest (tOp rNe (tCB (rLenO (He.ga K "Ring") (sp_Ring_len K) E0) (tCons (tOp (rBinO (He.ga K "Ring") (sp_Ring_add K) E0) (tVar 1) (tMake (He.ga K "Ring") (sp_Ring_init K) [] E0 (tCons (tC (.str "ba")) tNil))) tNil)) (tC (.int 600))))) (tRet (tC (.bl false))) tNext)
  (t_l05_5 K))
def t_l05_3 (K : PySem.W.Frag) : TS :=
  (tSeq (tIfS (tTest (tOp (rNeR K (He.ga K "Ring") (RingEq K)) (tLam (tabs05 K) (TT_law_heard05 K) (fun E => (tOp (rBinO (He.ga K "Ring") (spx_Ring_add K) E) (tVar 1) (tMake (He.ga K "Ring") (spx_Ring_init K) [] E (tCons (tC (.str "abc")) tNil))))) (tLst (tCons (tC (.str "word")) (tCons (tCall (sp_law_faceR K 6) [] E0 (tCons (tMake (He.ga K "Ring") (sp_Ring_init K) [] E0 (tCons (tC (.str "abc")) tNil)) tNil)) tNil))))) (tRet (tC (.bl false))) tNext)
  (t_l05_4 K))
def t_l05_2 (K : PySem.W.Frag) : TS :=
  (tSeq (tIfS (tTest (tOp (rNeR K (He.ga K "Ring") (RingEq K)) (tLam (tabs05 K) (TT_law_heard05 K) (fun E => (tOp (rBinO (He.ga K "Ring") (spx_Ring_add K) E) (tVar 0) (tMake (He.ga K "Ring") (spx_Ring_init K) [] E (tCons (tC (.str "c")) tNil))))) (tLst (tCons (tC (.str "word")) (tCons (tCall (sp_law_faceR K 6) [] E0 (tCons (tMake (He.ga K "Ring") (sp_Ring_init K) [] E0 (tCons (tC (.str "c")) tNil)) tNil)) tNil))))) (tRet (tC (.bl false))) tNext)
  (t_l05_3 K))
def t_l05_1 (K : PySem.W.Frag) : TS :=
  (tSeq (tIfS (tTest (tOp (rNeR K (He.ga K "Ring") (RingEq K)) (tLam (tabs05 K) (TT_law_heard05 K) (fun E => (tOp (rBinO (He.ga K "Ring") (spx_Ring_add K) E) (tVar 1) (tMake (He.ga K "Ring") (spx_Ring_init K) [] E (tCons (tC (.str "ba")) tNil))))) (tLst (tCons (tC (.str "nothing")) (tCons (tCall (sp_law_faceR K 6) [] E0 (tCons (tC .non) tNil)) tNil))))) (tRet (tC (.bl false))) tNext)
  (t_l05_2 K))
def t_l05_0 (K : PySem.W.Frag) : TS :=
  (tSeq (tAsg (tTup (tCons (tMake (He.ga K "Ring") (sp_Ring_init K) [] E0 (tCons (tOp rMulS (tC (.str "ab")) (tC (.int 300))) tNil)) (tCons (tMake (He.ga K "Ring") (sp_Ring_init K) [] E0 (tCons (tOp rMulS (tC (.str "ab")) (tC (.int 299))) tNil)) tNil))) (gTup K 2 (gCons (gName 0) (gCons (gName 1) gNil))))
  (t_l05_1 K))
def t_law_at_the_limit (K : PySem.W.Frag) : TS :=
  (tSeq (tAsg (tTup (tCons (tMake (He.ga K "Ring") (sp_Ring_init K) [] E0 (tCons (tOp rMulS (tC (.str "ab")) (tC (.int 300))) tNil)) (tCons (tMake (He.ga K "Ring") (sp_Ring_init K) [] E0 (tCons (tOp rMulS (tC (.str "ab")) (tC (.int 299))) tNil)) tNil))) (gTup K 2 (gCons (gName 0) (gCons (gName 1) gNil))))
  (tSeq (tIfS (tTest (tOp (rNeR K (He.ga K "Ring") (RingEq K)) (tLam (tabs05 K) (TT_law_heard05 K) (fun E => (tOp (rBinO (He.ga K "Ring") (spx_Ring_add K) E) (tVar 1) (tMake (He.ga K "Ring") (spx_Ring_init K) [] E (tCons (tC (.str "ba")) tNil))))) (tLst (tCons (tC (.str "nothing")) (tCons (tCall (sp_law_faceR K 6) [] E0 (tCons (tC .non) tNil)) tNil))))) (tRet (tC (.bl false))) tNext)
  (tSeq (tIfS (tTest (tOp (rNeR K (He.ga K "Ring") (RingEq K)) (tLam (tabs05 K) (TT_law_heard05 K) (fun E => (tOp (rBinO (He.ga K "Ring") (spx_Ring_add K) E) (tVar 0) (tMake (He.ga K "Ring") (spx_Ring_init K) [] E (tCons (tC (.str "c")) tNil))))) (tLst (tCons (tC (.str "word")) (tCons (tCall (sp_law_faceR K 6) [] E0 (tCons (tMake (He.ga K "Ring") (sp_Ring_init K) [] E0 (tCons (tC (.str "c")) tNil)) tNil)) tNil))))) (tRet (tC (.bl false))) tNext)
  (tSeq (tIfS (tTest (tOp (rNeR K (He.ga K "Ring") (RingEq K)) (tLam (tabs05 K) (TT_law_heard05 K) (fun E => (tOp (rBinO (He.ga K "Ring") (spx_Ring_add K) E) (tVar 1) (tMake (He.ga K "Ring") (spx_Ring_init K) [] E (tCons (tC (.str "abc")) tNil))))) (tLst (tCons (tC (.str "word")) (tCons (tCall (sp_law_faceR K 6) [] E0 (tCons (tMake (He.ga K "Ring") (sp_Ring_init K) [] E0 (tCons (tC (.str "abc")) tNil)) tNil)) tNil))))) (tRet (tC (.bl false))) tNext)
  (tSeq (tIfS (tOr (tTest (tOp (rNeR K (He.ga K "Ring") (RingEq K)) (tLam (tabs05 K) (TT_law_heard05 K) (fun E => (tOp (rBinI (He.ga K "Ring") (spx_Ring_mul K) E) (tMake (He.ga K "Ring") (spx_Ring_init K) [] E (tCons (tC (.str "ab")) tNil)) (tC (.int 300))))) (tLst (tCons (tC (.str "nothing")) (tCons (tCall (sp_law_faceR K 6) [] E0 (tCons (tC .non) tNil)) tNil))))) (tTest (tOp rNe (tCB (rLenO (He.ga K "Ring") (sp_Ring_len K) E0) (tCons (tOp (rBinO (He.ga K "Ring") (sp_Ring_add K) E0) (tVar 1) (tMake (He.ga K "Ring") (sp_Ring_init K) [] E0 (tCons (tC (.str "ba")) tNil))) tNil)) (tC (.int 600))))) (tRet (tC (.bl false))) tNext)
  (tRet (tAndV (tOp rEq (tCB (rLenO (He.ga K "Ring") (sp_Ring_len K) E0) (tCons (tOp (rBinI (He.ga K "Ring") (sp_Ring_mul K) E0) (tMake (He.ga K "Ring") (sp_Ring_init K) [] E0 (tCons (tC (.str "ab")) tNil)) (tC (.int 300))) tNil)) (tC (.int 600))) (tOp (rEqD K) (tLam (tabs05 K) (TT_law_heard05 K) (fun E => (tOp (rBinI (He.ga K "Ring") (spx_Ring_mul K) E) (tMake (He.ga K "Ring") (spx_Ring_init K) [] E (tCons (tC (.str "ab")) tNil)) (tC (.int 301))))) (tLst (tCons (tC (.str "word")) (tCons (tCall (sp_law_faceR K 6) [] E0 (tCons (tC (.int 301)) tNil)) tNil)))))))))))
def t_law05 (K : PySem.W.Frag) : TS :=
  (tSeq (tIfS (tNot (tB (tCall (sp_law_at_the_limit K) [] E0 tNil))) (tRet (tC (.bl false))) tNext)
  (tRet (tCB (rAll K) (tCons (tLc (iRng1 (tCons (tCB rMax2 (tCons (tC (.int 2)) (tCons (tCB rMin2 (tCons (tCB (rLenV K) (tCons (tVar 0) tNil)) (tCons (tC (.int 6)) tNil))) tNil))) tNil)) (gName 1) tYes (tCall (sp_law_right05 K) [] E0 (tCons (tCall (sp_law_pool K) [] E0 (tCons (tCall (sp_law_cell K) [] E0 (tCons (tVar 0) (tCons (tVar 1) tNil))) tNil)) tNil)) [1]) tNil))))
section
variable {K : PySem.W.Frag} {vs : List V} {H H1 H' : Hp} {Q : VK} {E : XK} {a p q x y z r : Addr} {l m w : List Nat} {v u sp : V} {s : Th12} {du ds : PyData}
theorem RingAt.ex0 (e : Ex [] H H') (h : RingAt K H x l) : RingAt K H' x l := h.ex e (by simp)
theorem pure_law_right05 (F : Own05 K) (h : sp_law_right05 K vs H Q E) : t_law_right05 K (E1 Q) (start ["_law_pool_here", "_law_word_here", "_law_ring", "_law_mate", "_law_kept", "_law_turn", "_law_line", "_law_due_here", "_law_near", "_law_joined", "_law_thing", "_law_spot_here"] vs) H := by
  obtain ⟨a, rfl, hp, hT, k⟩ := h
  show t_law_right05 K (E1 Q) [some (.ref a), none, none, none, none, none, none, none, none, none, none, none] H
  unfold t_law_right05
  walk_at "go"
  refine u_long (by omega) (by omega) hp fun l H1 hl e1 p1 => ?_
  walk_at "go"
  refine u_makeRing hl fun x H2 nx e2 hx => ?_
  have p2 := p1.ex e2 (by simp)
  walk_at "go"
  refine u_long (by omega) (by omega) p2 fun m H3 hm e3 p3 => ?_
  walk_at "go"
  refine u_makeRing hm fun y H4 ny e4 hy => ?_
  refine s_nil (s_alloc (by show 2 ≤ sizeLine; decide) fun b H5 nb e5 hb => ?_)
  have hx3 := hx.ex e3 (by simpa using hx.ne p2)
  have p5 := p3.ex (e4.trans e5) (by simp)
  have hx5 := hx3.ex0 (e4.trans e5)
  have hy5 := hy.ex0 e5
  have e15 := ((e1.trans e2.wide).trans e3).trans ((e4.trans e5).wide)
  have t5 := Tabs.exP hp e15 hT
  clear e1 e2 e3 e4 hx hy p1 p2 p3 nx ny hx3
  walk_at "go"
  rename_i q H6 nq e6 hq
  have A : At05 K a x y q l m H6 := ⟨p5.ex e6 (by simp), Tabs.ex0 e6 t5, hx5.ex0 e6, hy5.ex0 e6, hq, fun z => p5.there (z ▸ nq)⟩
  have x6 : ExN [a] H H6 := (ExN.of e15).trans (.of0 e6)
  clear e15 e5 e6 hb hq nq nb hx5 hy5 t5 p5
  refine for_rng (fun i σ G => ∃ x5 x6 x7 x8 x9 x10 x11, σ = [some (.ref a), some (vS l), some (.ref x), some (.ref y), some (.ref q), x5, x6, x7, x8, x9, x10, x11] ∧ At05 K a x y q l m G ∧ ExN [a] H G) ⟨_, _, _, _, _, _, _, rfl, A, x6⟩ ?_ ?_
  · rintro i _ G hi ⟨x5, x6, x7, x8, x9, x10, x11, rfl, AG, e0⟩
    refine s_gName ?_
    exact b05_0 hl hm AG fun x6 x7 x8 x9 x10 x11 G2 A2 e2 => ⟨_, _, _, _, _, _, _, rfl, A2, e0.trans e2⟩
  · rintro _ G ⟨x5, x6, x7, x8, x9, x10, x11, rfl, AG, e0⟩
    exact s_ret (s_c (k _ e0 AG.t))
abbrev W05 (n : Nat) : List Nat := rep n [97, 98]
theorem w05_ok {n : Nat} (h1 : 1 ≤ n) (h2 : n ≤ 300) : isWord (W05 n) LET = true := isWord_rep (by decide) h1 (by show n * 2 ≤ 600; omega)
theorem w05_len {n : Nat} (h1 : 1 ≤ n) (h2 : n ≤ 300) : (leastT (W05 n)).length = 2 * n := by
  have hw := isWord_len (w05_ok h1 h2)
  rw [leastT_len fun z => by rw [z] at hw; simp at hw]
  exact rep_len _ _
structure Lm05 (K : PySem.W.Frag) (x y : Addr) (H : Hp) : Prop where
  t : Tabs (tabs05 K) H
  rx : RingAt K H x (leastT (W05 300))
  ry : RingAt K H y (leastT (W05 299))
theorem Lm05.exN (e : ExN [] H H') (t : Tabs (tabs05 K) H') (h : Lm05 K x y H) : Lm05 K x y H' := ⟨t, h.rx.exN e (by simp), h.ry.exN e (by simp)⟩
theorem Lm05.ex0 (e : Ex [] H H') (h : Lm05 K x y H) : Lm05 K x y H' := h.exN (.of0 e) (Tabs.ex0 e h.t)
def PR (K : PySem.W.Frag) (w l : List Nat) : Addr → Hp → Prop := fun p H => ∃ r, Told05 H p w (.inr r) ∧ RingAt K H r l
theorem PR.ex0 : ∀ p H H', Ex [] H H' → PR K w l p H → PR K w l p H' := fun p H H' e ⟨r, h1, h2⟩ => ⟨r, h1.ex0 e, h2.ex0 e⟩
theorem PR.ne : ∀ p1 p2 G (Q' : VK), PR K w l p1 G → PR K w l p2 G → (∀ G', Ex [] G G' → Q' (.bl false) G') → rNeR K (He.ga K "Ring") (RingEq K) (.ref p1) (.ref p2) G Q' := fun p1 p2 G Q' ⟨b1, h1, g1⟩ ⟨b2, h2, g2⟩ k => s_neRings h1 h2 g1 g2 k
theorem lim_word {c : Str} (hc : c = S w) (hw : isWord w LET = true) {i : Nat} {σ : L2.St} (hi : σ[i]? = some (some (.ref z))) (hT : Tabs (tabs05 K) H) (hz : RingAt K H z l) (hl : l.length ≤ 600) (h6 : 600 < l.length + w.length) {D : Ends}
    (k : ∀ H3, ExN [] H H3 → Tabs (tabs05 K) H3 → D.nx σ H3) :
    tIfS (tTest (tOp (rNeR K (He.ga K "Ring") (RingEq K)) (tLam (tabs05 K) (TT_law_heard05 K) (fun E => (tOp (rBinO (He.ga K "Ring") (spx_Ring_add K) E) (tVar i) (tMake (He.ga K "Ring") (spx_Ring_init K) [] E (tCons (tC (.str c)) tNil))))) (tLst (tCons (tC (.str "word")) (tCons (tCall (sp_law_faceR K 6) [] E0 (tCons (tMake (He.ga K "Ring") (sp_Ring_init K) [] E0 (tCons (tC (.str c)) tNil)) tNil)) tNil))))) (tRet (tC (.bl false))) tNext D σ H := by
  have hwl := isWord_len hw
  have w0 : w ≠ [] := fun z => by rw [z] at hwl; simp at hwl
  have le := leastT_len w0
  refine s_same (PR K s05Word (leastT w)) (PR K s05Word (leastT w)) PR.ex0 hT PR.ne (fun H1 e1 E R _ kR => ?_) (fun H1 Q' e1 kk => ?_) k
  · have hz1 := hz.exN e1 (by simp)
    refine s_op (s_var hi (s_makeE (s_cons (s_cS (l := w) hc (s_nil (u_makeOK hw fun b G nb e hb => ?_))))))
    refine s_addNo (hz1.ex0 e) hb hl (by omega) (by omega) (kR "InvalidWord" s05Word (.inr b) (.ref b) G (by simp [heards05]) e (th_ring hb) fun p H3 e3 hp => ⟨b, hp, hb.ex0 e3⟩)
  · refine s_lst (s_cons (s_cS (l := s05Word) (by decide +kernel) (s_cons (s_call (s_cons (s_makeE (s_cons (s_cS (l := w) hc (s_nil (u_makeRing hw fun b G nb e hb => ?_))))))))))
    refine s_nil (u_faceR (th_ring hb) fun r1 G1 n1 e1 f1 => s_nil (s_alloc (by show 2 ≤ sizeLine; decide) fun p2 G2 np e2 hp => kk p2 G2 ((e.trans e1).trans e2) ⟨b, ⟨r1, hp, f1.ex0 e2⟩, hb.ex0 (e1.trans e2)⟩))
theorem lim_ok {body : XK → TE} {σ : L2.St} {R : Bool → Hp → Prop} (hT : Tabs (tabs05 K) H) (hb : ∀ H1, ExN [] H H1 → ∀ (E : XK) (R : VK), (∀ v H2, Ex [] H1 H2 → R v H2) → body E σ H1 R) (k : ∀ H3, ExN [] H H3 → Tabs (tabs05 K) H3 → R false H3) :
    tTest (tOp (rNeR K (He.ga K "Ring") (RingEq K)) (tLam (tabs05 K) (TT_law_heard05 K) body) (tLst (tCons (tC (.str "nothing")) (tCons (tCall (sp_law_faceR K 6) [] E0 (tCons (tC .non) tNil)) tNil)))) σ H R := by
  refine s_test (s_op (s_heard05 (P := Pw sNothing (.inl .none)) hT (fun H1 e1 => body_ok fun E R kR => hb H1 (.ofT e1) E R kR) fun p1 H1 H2 e1 e2 t2 hp => ?_))
  refine s_lst (s_cons (s_cS (l := sNothing) (by decide +kernel) (s_cons (s_call (s_cons (s_c (s_nil (u_faceR (thNone (K := K) (m := [])) fun r1 G1 n1 f1 g1 => s_nil (s_alloc (by show 2 ≤ sizeLine; decide) fun p2 G2 np f2 hp2 => ?_)))))))))
  refine .inl (s_neTold plain_05.2.2.2.2 (hp.ex0 (f1.trans f2)) (s := .inl .none) ⟨r1, hp2, g1.ex0 f2⟩ fun G eG => s_blQ ?_)
  have e2G := (e2.trans (f1.trans f2)).trans eG
  exact k G ((ExN.ofT e1).trans (.of0 e2G)) (Tabs.ex0 ((f1.trans f2).trans eG) t2)
theorem s_mulOK {i : Int} (hx : RingAt K H x l) (wl : isWord l LET = true) (h1 : 1 ≤ i) (h : (l.length : Int) * i ≤ 600) (k : NewRing K H Q (rep i.toNat l)) : rBinI (He.ga K "Ring") (spx_Ring_mul K) E (.ref x) (.int i) H Q := by
  obtain ⟨dx, fs, hi⟩ := rg_ins hx
  exact ⟨x, dx, fs, rfl, hi, ⟨i, rfl⟩, .inl ⟨x, l, i, rfl, hx, wl, h1, h, k⟩⟩
theorem s_mulO {i : Int} (hx : RingAt K H x l) (wl : isWord l LET = true) (h1 : 1 ≤ i) (h : (l.length : Int) * i ≤ 600) (k : NewRing K H Q (rep i.toNat l)) : rBinI (He.ga K "Ring") (sp_Ring_mul K) E (.ref x) (.int i) H Q := by
  obtain ⟨dx, fs, hi⟩ := rg_ins hx
  exact ⟨x, dx, fs, rfl, hi, ⟨i, rfl⟩, x, l, i, rfl, hx, wl, h1, h, k⟩
theorem s_addO (hx : RingAt K H x l) (hy : RingAt K H y m) (wl : isWord l LET = true) (wm : isWord m LET = true) (h : l.length + m.length ≤ 600) (k : NewRing K H Q (l ++ m)) : rBinO (He.ga K "Ring") (sp_Ring_add K) E (.ref x) (.ref y) H Q := by
  obtain ⟨dx, fs, h1⟩ := rg_ins hx
  obtain ⟨dy, gs, h2⟩ := rg_ins hy
  exact ⟨x, dx, fs, rfl, h1, ⟨y, dy, gs, rfl, h2⟩, x, y, l, m, rfl, hx, hy, wl, wm, h, k⟩
theorem least_ab : leastT [97, 98] = [97, 98] := by decide
theorem least_ba : leastT [98, 97] = [97, 98] := by decide
theorem l05_5 (A : Lm05 K x y H) (k : ∀ H', ExN [] H H' → Tabs (tabs05 K) H' → Q (.bl true) H') : t_l05_5 K (E1 Q) [some (.ref x), some (.ref y)] H := by
  unfold t_l05_5
  refine s_ret (s_andV (s_op (s_cb (s_cons (s_op (s_makeE (s_cons (s_cS (l := [97, 98]) (by decide +kernel) (s_nil (u_makeRing (by decide) fun b G nb e hb => ?_))))))))))
  rw [least_ab] at hb
  refine s_c (s_mulO hb (by decide) (by decide) (by decide) fun c G2 nc e2 hc => ?_)
  have len : (leastT (rep (300 : Int).toNat [97, 98])).length = 600 := w05_len (n := 300) (by decide) (by decide)
  refine s_nil (u_lenRing hc (by rw [len]; decide) (s_c (s_eqI ⟨_, rfl, ?_⟩)))
  rw [len, if_pos (by decide)]
  have A2 := A.ex0 (e.trans e2)
  have x2 : ExN [] H G2 := .of0 (e.trans e2)
  refine s_op (s_heard05 (P := Pw s05Word (.inl (.int 301))) A2.t (fun H1 e1 E R h1 h2 => ?_) fun p1 H1 H2 e1 e2 t2 hp => ?_)
  · refine s_op (s_makeE (s_cons (s_cS (l := [97, 98]) (by decide +kernel) (s_nil (u_makeOK (by decide) fun b G nb e hb => ?_)))))
    rw [least_ab] at hb
    obtain ⟨dx, fs, hi⟩ := rg_ins hb
    have th : ∀ G, ThAt K [] G (.int 301) (.inl (.int 301)) := fun G => ValD.int_ 301 (by decide)
    refine s_c ⟨b, dx, fs, rfl, hi, ⟨301, rfl⟩, .inr ⟨b, .int 301, rfl, [97, 98], hb, by decide, .inr ⟨301, rfl, by decide, by decide, ?_⟩⟩⟩
    refine h2 "InvalidWord" s05Word (.inl (.int 301)) (.int 301) G (by simp [heards05]) e (th G) fun p H3 e3 hp => ?_
    unfold Pw due05
    rw [if_neg (by decide)]
    exact hp
  · have th : ThAt K [] H2 (.int 301) (.inl (.int 301)) := ValD.int_ 301 (by decide)
    refine s_lst (s_cons (s_cS (l := s05Word) (by decide +kernel) (s_cons (s_call (s_cons (s_c (s_nil (u_faceR th fun r1 G1 n1 f1 g1 => s_nil (s_alloc (by show 2 ≤ sizeLine; decide) fun p2 G2 np f2 hp2 => ?_)))))))))
    have hp' : Told05 H2 p1 s05Word (.inl (.int 301)) := by
      unfold Pw due05 at hp
      rw [if_neg (by decide)] at hp
      exact hp
    obtain ⟨r0, z0, g0⟩ := hp'.ex0 (f1.trans f2)
    refine s_eqFr (n := 12) (m := 12) (by decide) (fr_told05 plain_05.1 z0 g0) (fr_told05 plain_05.1 hp2 (g1.ex0 f2)) ?_
    exact k _ ((x2.trans (.ofT e1)).trans (.of0 (e2.trans (f1.trans f2)))) (Tabs.ex0 (f1.trans f2) t2)
theorem l05_4 (A : Lm05 K x y H) (k : ∀ H', ExN [] H H' → Tabs (tabs05 K) H' → Q (.bl true) H') : t_l05_4 K (E1 Q) [some (.ref x), some (.ref y)] H := by
  unfold t_l05_4
  have l9 : (leastT (W05 299)).length = 598 := w05_len (by decide) (by decide)
  refine s_seq (s_ifS (s_or (lim_ok A.t (fun H1 e1 E R kR => ?_) fun H3 e3 t3 => s_F rfl ?_)))
  · refine s_op (s_makeE (s_cons (s_cS (l := [97, 98]) (by decide +kernel) (s_nil (u_makeOK (by decide) fun b G nb e hb => ?_)))))
    rw [least_ab] at hb
    exact s_c (s_mulOK hb (by decide) (by decide) (by decide) fun c G2 _ e2 _ => kR _ _ (e.trans e2))
  · have A3 := A.exN e3 t3
    refine s_test (s_op (s_cb (s_cons (s_op (s_var (v := .ref y) rfl (s_makeE (s_cons (s_cS (l := [98, 97]) (by decide +kernel) (s_nil (u_makeRing (by decide) fun b G nb e hb => ?_))))))))))
    rw [least_ba] at hb
    refine s_addO (A3.ry.ex0 e) hb (isWord_least (w05_ok (by decide) (by decide))) (by decide) (by rw [l9]; decide) fun c G2 nc e2 hc => ?_
    have l9b : (leastT (W05 299) ++ [97, 98]).length = 600 := by rw [List.length_append, l9]; rfl
    have len : (leastT (leastT (W05 299) ++ [97, 98])).length = 600 := by rw [leastT_len (fun z => by rw [z] at l9b; simp at l9b)]; exact l9b
    refine s_nil (u_lenRing hc (by rw [len]; decide) (s_c (s_neI (s_blQ ?_))))
    rw [len]
    refine s_F (by decide) (s_next ?_)
    exact l05_5 (A3.ex0 (e.trans e2)) fun H' e4 t4 => k H' ((e3.trans (.of0 (e.trans e2))).trans e4) t4
theorem l05_1 (A : Lm05 K x y H) (k : ∀ H', ExN [] H H' → Tabs (tabs05 K) H' → Q (.bl true) H') : t_l05_1 K (E1 Q) [some (.ref x), some (.ref y)] H := by
  have l9 : (leastT (W05 299)).length = 598 := w05_len (by decide) (by decide)
  have l3 : (leastT (W05 300)).length = 600 := w05_len (by decide) (by decide)
  unfold t_l05_1
  refine s_seq (s_ifS (lim_ok A.t (fun H1 e1 E R kR => ?_) fun H3 e3 t3 => s_F rfl (s_next ?_)))
  · refine s_op (s_var (v := .ref y) rfl (s_makeE (s_cons (s_cS (l := [98, 97]) (by decide +kernel) (s_nil (u_makeOK (by decide) fun b G nb e hb => ?_))))))
    rw [least_ba] at hb
    exact s_addOK ((A.ry.exN e1 (by simp)).ex0 e) hb (isWord_least (w05_ok (by decide) (by decide))) (by decide) (by rw [l9]; decide) fun c G2 _ e2 _ => kR _ _ (e.trans e2)
  have A3 := A.exN e3 t3
  show t_l05_2 K (E1 Q) _ _
  unfold t_l05_2
  refine s_seq (lim_word (w := [99]) (by decide +kernel) (by decide) rfl t3 A3.rx (by omega) (by rw [l3]; decide) fun H4 e4 t4 => ?_)
  have A4 := A3.exN e4 t4
  show t_l05_3 K (E1 Q) _ _
  unfold t_l05_3
  refine s_seq (lim_word (w := [97, 98, 99]) (by decide +kernel) (by decide) rfl t4 A4.ry (by omega) (by rw [l9]; decide) fun H5 e5 t5 => ?_)
  exact l05_4 (A4.exN e5 t5) fun H' e6 t6 => k H' (((e3.trans e4).trans e5).trans e6) t6
theorem pure_law_at_the_limit (F : Own05 K) (h : sp_law_at_the_limit K vs H Q E) : t_law_at_the_limit K (E1 Q) (start ["_law_long_here", "_law_less"] vs) H := by
  obtain ⟨rfl, hT, k⟩ := h
  show t_l05_0 K (E1 Q) [none, none] H
  unfold t_l05_0
  have ml : ∀ {n : Nat}, n ≤ 600 → n ≤ sizeLine := lenOK
  refine s_seq (s_asg (s_tup (s_cons (s_makeE (s_cons (s_op (s_cS (l := [97, 98]) (by decide +kernel) (s_c (s_mulS (by decide) (by decide) (by decide) (s_nil (u_makeRing (w05_ok (n := 300) (by decide) (by decide)) fun x G1 nx e1 hx => ?_)))))))))))
  refine s_cons (s_makeE (s_cons (s_op (s_cS (l := [97, 98]) (by decide +kernel) (s_c (s_mulS (by decide) (by decide) (by decide) (s_nil (u_makeRing (w05_ok (n := 299) (by decide) (by decide)) fun y G2 ny e2 hy => ?_))))))))
  refine s_nil (s_alloc (by show 2 ≤ sizeLine; decide) fun b G3 nb e3 hb => ?_)
  have e03 := (e1.trans e2).trans e3
  have A : Lm05 K x y G3 := ⟨Tabs.ex0 e03 hT, hx.ex0 (e2.trans e3), hy.ex0 e3⟩
  clear e1 e2 hx hy
  walk_at "go"
  exact l05_1 A fun H' e t => k H' ((ExN.of0 e03).trans e) t
theorem pure_law05 (h : sp_law05 K vs H Q E) : t_law05 K (E1 Q) (start ["_law_script", "_law_k"] vs) H := by
  obtain ⟨a, ns, rfl, hs, hl, hT, k⟩ := h
  show t_law05 K (E1 Q) [some (.ref a), none] H
  unfold t_law05
  refine s_seq (s_ifS (s_not (s_tB (s_call (s_nil ⟨rfl, hT, fun H0 e0 t0 => s_blQ (s_F rfl (s_next ?_))⟩)))))
  have hs0 := sqL_exN e0 (by simp) hs
  clear hT hs
  walk_at "go"
  rw [List.length_map]
  generalize hn : (if (if (6 : Int) < (ns.length : Int) then (6 : Int) else (ns.length : Int)) > 2 then (if (6 : Int) < (ns.length : Int) then (6 : Int) else (ns.length : Int)) else 2) = n
  have hn2 : 0 ≤ n ∧ n ≤ 63 := by subst hn; split <;> (try split) <;> omega
  clear hn
  refine lc_tabs (by omega) t0 (fun i H1 C hi e t1 kk => ?_) (fun D H' hd => ?_)
  · walk_at "go"
    refine u_cell (sqL_exN e (by simp) hs0) hl (by omega) (by omega) fun c H2 e2 => ?_
    walk_at "go"
    rename_i p H3 hp e3 p3
    refine ⟨p, rfl, p3, Tabs.ex0 (e2.trans e3) t1, fun H4 e4 t4 => ?_⟩
    exact kk _ (ExN.drop (e2.free hp) (e2.trans e3) e4) t4
  · walk_at "go"
    refine s_all (bs := (List.range n.toNat).map fun _ => true) ?_ ?_
    · rw [List.map_map]; exact SqL.of hd
    · have : ((List.range n.toNat).map fun _ => true).all id = true := by simp
      rw [this]
      exact k _
end
end WB
namespace WB
open PySem PySem.Spec PyProof.Rows L2 LamX
structure Tx (K : Fr') (mg : Str → Option Value) : Prop where
  c : SaysW fa fn ex K
  h : ∃ h : Heap, K.In h ∧ h.Ns mainGlobals mg
theorem Tx.g_is_integer {K : Fr'} {mg : Str → Option Value} (T : Tx K mg) : mg "is_integer" = some (.ref (He.ga K "is_integer")) := by
  obtain ⟨h, X, G⟩ := T.h
  exact He.glo_ok X G (T.c.fact 0)
theorem Tx.g_is_within {K : Fr'} {mg : Str → Option Value} (T : Tx K mg) : mg "is_within" = some (.ref (He.ga K "is_within")) := by
  obtain ⟨h, X, G⟩ := T.h
  exact He.glo_ok X G (T.c.fact 1)
theorem Tx.g_is_word {K : Fr'} {mg : Str → Option Value} (T : Tx K mg) : mg "is_word" = some (.ref (He.ga K "is_word")) := by
  obtain ⟨h, X, G⟩ := T.h
  exact He.glo_ok X G (T.c.fact 2)
theorem Tx.g_is_row {K : Fr'} {mg : Str → Option Value} (T : Tx K mg) : mg "is_row" = some (.ref (He.ga K "is_row")) := by
  obtain ⟨h, X, G⟩ := T.h
  exact He.glo_ok X G (T.c.fact 3)
theorem Tx.g_least_turning {K : Fr'} {mg : Str → Option Value} (T : Tx K mg) : mg "least_turning" = some (.ref (He.ga K "least_turning")) := by
  obtain ⟨h, X, G⟩ := T.h
  exact He.glo_ok X G (T.c.fact 4)
theorem Tx.g_law_cell {K : Fr'} {mg : Str → Option Value} (T : Tx K mg) : mg "_law_cell" = some (.ref (He.ga K "_law_cell")) := by
  obtain ⟨h, X, G⟩ := T.h
  exact He.glo_ok X G (T.c.fact 5)
theorem Tx.g_law_pool {K : Fr'} {mg : Str → Option Value} (T : Tx K mg) : mg "_law_pool" = some (.ref (He.ga K "_law_pool")) := by
  obtain ⟨h, X, G⟩ := T.h
  exact He.glo_ok X G (T.c.fact 6)
theorem Tx.g_law_draw {K : Fr'} {mg : Str → Option Value} (T : Tx K mg) : mg "_law_draw" = some (.ref (He.ga K "_law_draw")) := by
  obtain ⟨h, X, G⟩ := T.h
  exact He.glo_ok X G (T.c.fact 7)
theorem Tx.g_law_faceR {K : Fr'} {mg : Str → Option Value} (T : Tx K mg) : mg "_law_face" = some (.ref (He.ga K "_law_face")) := by
  obtain ⟨h, X, G⟩ := T.h
  exact He.glo_ok X G (T.c.fact 8)
theorem Tx.g_law_wholeK {K : Fr'} {mg : Str → Option Value} (T : Tx K mg) : mg "_law_whole" = some (.ref (He.ga K "_law_whole")) := by
  obtain ⟨h, X, G⟩ := T.h
  exact He.glo_ok X G (T.c.fact 9)
theorem Tx.g_law_odd {K : Fr'} {mg : Str → Option Value} (T : Tx K mg) : mg "_law_odd" = some (.ref (He.ga K "_law_odd")) := by
  obtain ⟨h, X, G⟩ := T.h
  exact He.glo_ok X G (T.c.fact 10)
theorem Tx.g_law_signs {K : Fr'} {mg : Str → Option Value} (T : Tx K mg) : mg "_law_signs" = some (.ref (He.ga K "_law_signs")) := by
  obtain ⟨h, X, G⟩ := T.h
  exact He.glo_ok X G (T.c.fact 11)
theorem Tx.g_law_word {K : Fr'} {mg : Str → Option Value} (T : Tx K mg) : mg "_law_word" = some (.ref (He.ga K "_law_word")) := by
  obtain ⟨h, X, G⟩ := T.h
  exact He.glo_ok X G (T.c.fact 12)
theorem Tx.g_law_long {K : Fr'} {mg : Str → Option Value} (T : Tx K mg) : mg "_law_long" = some (.ref (He.ga K "_law_long")) := by
  obtain ⟨h, X, G⟩ := T.h
  exact He.glo_ok X G (T.c.fact 13)
theorem Tx.g_law_is_word {K : Fr'} {mg : Str → Option Value} (T : Tx K mg) : mg "_law_is_word" = some (.ref (He.ga K "_law_is_word")) := by
  obtain ⟨h, X, G⟩ := T.h
  exact He.glo_ok X G (T.c.fact 14)
theorem Tx.g_law_heard05 {K : Fr'} {mg : Str → Option Value} (T : Tx K mg) : mg "_law_heard" = some (.ref (He.ga K "_law_heard")) := by
  obtain ⟨h, X, G⟩ := T.h
  exact He.glo_ok X G (T.c.fact 15)
theorem Tx.g_law_due05 {K : Fr'} {mg : Str → Option Value} (T : Tx K mg) : mg "_law_due" = some (.ref (He.ga K "_law_due")) := by
  obtain ⟨h, X, G⟩ := T.h
  exact He.glo_ok X G (T.c.fact 16)
theorem Tx.g_law_spoilt05 {K : Fr'} {mg : Str → Option Value} (T : Tx K mg) : mg "_law_spoilt" = some (.ref (He.ga K "_law_spoilt")) := by
  obtain ⟨h, X, G⟩ := T.h
  exact He.glo_ok X G (T.c.fact 17)
theorem Tx.g_law_spot05 {K : Fr'} {mg : Str → Option Value} (T : Tx K mg) : mg "_law_spot" = some (.ref (He.ga K "_law_spot")) := by
  obtain ⟨h, X, G⟩ := T.h
  exact He.glo_ok X G (T.c.fact 18)
theorem Tx.g_law_spot_due {K : Fr'} {mg : Str → Option Value} (T : Tx K mg) : mg "_law_spot_due" = some (.ref (He.ga K "_law_spot_due")) := by
  obtain ⟨h, X, G⟩ := T.h
  exact He.glo_ok X G (T.c.fact 19)
theorem Tx.g_law_times_due {K : Fr'} {mg : Str → Option Value} (T : Tx K mg) : mg "_law_times_due" = some (.ref (He.ga K "_law_times_due")) := by
  obtain ⟨h, X, G⟩ := T.h
  exact He.glo_ok X G (T.c.fact 20)
theorem Tx.g_law_right05 {K : Fr'} {mg : Str → Option Value} (T : Tx K mg) : mg "_law_right" = some (.ref (He.ga K "_law_right")) := by
  obtain ⟨h, X, G⟩ := T.h
  exact He.glo_ok X G (T.c.fact 21)
theorem Tx.g_law_at_the_limit {K : Fr'} {mg : Str → Option Value} (T : Tx K mg) : mg "_law_at_the_limit" = some (.ref (He.ga K "_law_at_the_limit")) := by
  obtain ⟨h, X, G⟩ := T.h
  exact He.glo_ok X G (T.c.fact 22)
theorem Tx.g_law05 {K : Fr'} {mg : Str → Option Value} (T : Tx K mg) : mg "law" = some (.ref (He.ga K "law")) := by
  obtain ⟨h, X, G⟩ := T.h
  exact He.glo_ok X G (T.c.fact 23)
theorem Tx.g_InvalidNumber {K : Fr'} {mg : Str → Option Value} (T : Tx K mg) : mg "InvalidNumber" = some (.ref (He.ga K "InvalidNumber")) := by
  obtain ⟨h, X, G⟩ := T.h
  exact He.glo_ok X G (T.c.fact 24)
theorem Tx.g_InvalidPlace {K : Fr'} {mg : Str → Option Value} (T : Tx K mg) : mg "InvalidPlace" = some (.ref (He.ga K "InvalidPlace")) := by
  obtain ⟨h, X, G⟩ := T.h
  exact He.glo_ok X G (T.c.fact 25)
theorem Tx.g_InvalidWord {K : Fr'} {mg : Str → Option Value} (T : Tx K mg) : mg "InvalidWord" = some (.ref (He.ga K "InvalidWord")) := by
  obtain ⟨h, X, G⟩ := T.h
  exact He.glo_ok X G (T.c.fact 26)
theorem Tx.g_MOST_WORD {K : Fr'} {mg : Str → Option Value} (T : Tx K mg) : ∃ t, mg "MOST_WORD" = some (.int 600 t) := by
  obtain ⟨h, X, G⟩ := T.h
  exact He.int_ok X G (T.c.fact 27)
theorem Tx.g_NotARing {K : Fr'} {mg : Str → Option Value} (T : Tx K mg) : mg "NotARing" = some (.ref (He.ga K "NotARing")) := by
  obtain ⟨h, X, G⟩ := T.h
  exact He.glo_ok X G (T.c.fact 28)
theorem Tx.g_Ring {K : Fr'} {mg : Str → Option Value} (T : Tx K mg) : mg "Ring" = some (.ref (He.ga K "Ring")) := by
  obtain ⟨h, X, G⟩ := T.h
  exact He.glo_ok X G (T.c.fact 29)
theorem Tx.n_abs {K : Fr'} {mg : Str → Option Value} (T : Tx K mg) : mg "abs" = none := by
  obtain ⟨h, X, G⟩ := T.h
  exact He.free_ok X G (T.c.fact 30)
theorem Tx.n_all {K : Fr'} {mg : Str → Option Value} (T : Tx K mg) : mg "all" = none := by
  obtain ⟨h, X, G⟩ := T.h
  exact He.free_ok X G (T.c.fact 31)
theorem Tx.n_bool {K : Fr'} {mg : Str → Option Value} (T : Tx K mg) : mg "bool" = none := by
  obtain ⟨h, X, G⟩ := T.h
  exact He.free_ok X G (T.c.fact 32)
theorem Tx.n_dict {K : Fr'} {mg : Str → Option Value} (T : Tx K mg) : mg "dict" = none := by
  obtain ⟨h, X, G⟩ := T.h
  exact He.free_ok X G (T.c.fact 33)
theorem Tx.n_divmod {K : Fr'} {mg : Str → Option Value} (T : Tx K mg) : mg "divmod" = none := by
  obtain ⟨h, X, G⟩ := T.h
  exact He.free_ok X G (T.c.fact 34)
theorem Tx.n_int {K : Fr'} {mg : Str → Option Value} (T : Tx K mg) : mg "int" = none := by
  obtain ⟨h, X, G⟩ := T.h
  exact He.free_ok X G (T.c.fact 35)
theorem Tx.n_isinstance {K : Fr'} {mg : Str → Option Value} (T : Tx K mg) : mg "isinstance" = none := by
  obtain ⟨h, X, G⟩ := T.h
  exact He.free_ok X G (T.c.fact 36)
theorem Tx.n_len {K : Fr'} {mg : Str → Option Value} (T : Tx K mg) : mg "len" = none := by
  obtain ⟨h, X, G⟩ := T.h
  exact He.free_ok X G (T.c.fact 37)
theorem Tx.n_list {K : Fr'} {mg : Str → Option Value} (T : Tx K mg) : mg "list" = none := by
  obtain ⟨h, X, G⟩ := T.h
  exact He.free_ok X G (T.c.fact 38)
theorem Tx.n_max {K : Fr'} {mg : Str → Option Value} (T : Tx K mg) : mg "max" = none := by
  obtain ⟨h, X, G⟩ := T.h
  exact He.free_ok X G (T.c.fact 39)
theorem Tx.n_min {K : Fr'} {mg : Str → Option Value} (T : Tx K mg) : mg "min" = none := by
  obtain ⟨h, X, G⟩ := T.h
  exact He.free_ok X G (T.c.fact 40)
theorem Tx.n_range {K : Fr'} {mg : Str → Option Value} (T : Tx K mg) : mg "range" = none := by
  obtain ⟨h, X, G⟩ := T.h
  exact He.free_ok X G (T.c.fact 41)
theorem Tx.n_str {K : Fr'} {mg : Str → Option Value} (T : Tx K mg) : mg "str" = none := by
  obtain ⟨h, X, G⟩ := T.h
  exact He.free_ok X G (T.c.fact 42)
theorem Tx.n_tuple {K : Fr'} {mg : Str → Option Value} (T : Tx K mg) : mg "tuple" = none := by
  obtain ⟨h, X, G⟩ := T.h
  exact He.free_ok X G (T.c.fact 43)
theorem Tx.c_Ring {K : Fr'} {mg : Str → Option Value} (T : Tx K mg) : Cls K (He.ga K "Ring") := He.cls_ok (T.c.fact 44)
theorem Tx.na_Ring_least {K : Fr'} {mg : Str → Option Value} (T : Tx K mg) : NoAttr K (He.ga K "Ring") "least" := He.noat_ok (T.c.fact 45)
theorem Tx.ins_Ring {K : Fr'} {mg : Str → Option Value} (T : Tx K mg) : insB "Ring" K = true := T.c.more 0
theorem Tx.no_Ring {K : Fr'} {mg : Str → Option Value} (T : Tx K mg) : noB "Ring" K = true := T.c.more 1
theorem Tx.mk_Ring {K : Fr'} {mg : Str → Option Value} (T : Tx K mg) : Mk K (He.ga K "Ring") (He.ma K (He.ga K "Ring") "__init__") := He.mkr_ok (T.c.fact 46)
theorem Tx.sf_Ring {K : Fr'} {mg : Str → Option Value} (T : Tx K mg) : PySem.W.selfFirst K (He.ga K "Ring") = true := T.c.more 2
theorem Tx.xk_InvalidWord {K : Fr'} {mg : Str → Option Value} (T : Tx K mg) : ExcK K (He.ga K "InvalidWord") (He.ma K (He.ga K "InvalidWord") "__init__") "given" := excKB_ok (T.c.more 3)
theorem Tx.xk_InvalidPlace {K : Fr'} {mg : Str → Option Value} (T : Tx K mg) : ExcK K (He.ga K "InvalidPlace") (He.ma K (He.ga K "InvalidPlace") "__init__") "given" := excKB_ok (T.c.more 4)
theorem Tx.xk_InvalidNumber {K : Fr'} {mg : Str → Option Value} (T : Tx K mg) : ExcK K (He.ga K "InvalidNumber") (He.ma K (He.ga K "InvalidNumber") "__init__") "given" := excKB_ok (T.c.more 5)
theorem Tx.xk_NotARing {K : Fr'} {mg : Str → Option Value} (T : Tx K mg) : ExcK K (He.ga K "NotARing") (He.ma K (He.ga K "NotARing") "__init__") "given" := excKB_ok (T.c.more 6)
theorem Tx.tabd {K : Fr'} {mg : Str → Option Value} (T : Tx K mg) : tabsDB ["_law_right", "_law_at_the_limit"] K = true := T.c.more 7
theorem Tx.exm {K : Fr'} {mg : Str → Option Value} (T : Tx K mg) : ExmAll K ["InvalidWord", "InvalidPlace", "InvalidNumber", "NotARing"] := exmAllB_ok (T.c.more 8)
theorem Tx.kitR {K : Fr'} {mg : Str → Option Value} (T : Tx K mg) : ∀ n ∈ (["tuple", "list", "dict", "bool"] : List String), PySem.W.kitOne K (.ref (He.ga K "Ring")) (.type n) = some false := kitTB_ok (T.c.more 9)
theorem Tx.p_Ring_text {K : Fr'} {mg : Str → Option Value} (T : Tx K mg) : PropOf K (He.ga K "Ring") "text" (He.ma K (He.ga K "Ring") "text") (He5.wf K (He.ga K "Ring") "property" "text") := propB_ok (T.c.more 10)
theorem Tx.m_Ring_stretch {K : Fr'} {mg : Str → Option Value} (T : Tx K mg) : Meth K (He.ga K "Ring") "stretch" (He.ma K (He.ga K "Ring") "stretch") := He.meth_ok (T.c.fact 47)
theorem Tx.m_Ring_turned {K : Fr'} {mg : Str → Option Value} (T : Tx K mg) : Meth K (He.ga K "Ring") "turned" (He.ma K (He.ga K "Ring") "turned") := He.meth_ok (T.c.fact 48)
theorem Tx.s_Ring_len {K : Fr'} {mg : Str → Option Value} (T : Tx K mg) : Spec1 K (He.ga K "Ring") "__len__" (He.ma K (He.ga K "Ring") "__len__") := specB_ok (T.c.more 11)
theorem Tx.s_Ring_eq {K : Fr'} {mg : Str → Option Value} (T : Tx K mg) : Spec1 K (He.ga K "Ring") "__eq__" (He.ma K (He.ga K "Ring") "__eq__") := specB_ok (T.c.more 12)
theorem Tx.s_Ring_getitem {K : Fr'} {mg : Str → Option Value} (T : Tx K mg) : Spec1 K (He.ga K "Ring") "__getitem__" (He.ma K (He.ga K "Ring") "__getitem__") := specB_ok (T.c.more 13)
theorem Tx.fn_Ring_getitem {K : Fr'} {mg : Str → Option Value} (T : Tx K mg) : PySem.W.fnIn K (He.ma K (He.ga K "Ring") "__getitem__") = true := T.c.more 14
theorem Tx.bt_Ring_mul {K : Fr'} {mg : Str → Option Value} (T : Tx K mg) : BinT K (He.ga K "Ring") "mul" "int" (He.ma K (He.ga K "Ring") "__mul__") := binB_ok (T.c.more 15)
theorem Tx.bta_Ring_mul {K : Fr'} {mg : Str → Option Value} (T : Tx K mg) : BinTs K (He.ga K "Ring") "mul" (He.ma K (He.ga K "Ring") "__mul__") := binBs_ok (T.c.more 16)
theorem Tx.s_Ring_add {K : Fr'} {mg : Str → Option Value} (T : Tx K mg) : Spec1 K (He.ga K "Ring") "__add__" (He.ma K (He.ga K "Ring") "__add__") := specB_ok (T.c.more 17)
theorem Tx.bta_Ring_add {K : Fr'} {mg : Str → Option Value} (T : Tx K mg) : BinTs K (He.ga K "Ring") "add" (He.ma K (He.ga K "Ring") "__add__") := binBs_ok (T.c.more 18)
theorem Tx.ringK {K : Fr'} {mg : Str → Option Value} (T : Tx K mg) : RingK K := ⟨T.c_Ring, T.na_Ring_least, (insB_ok T.c_Ring T.ins_Ring).1, (insB_ok T.c_Ring T.ins_Ring).2, noB_ok T.no_Ring⟩
theorem Tx.own05 {K : Fr'} {mg : Str → Option Value} (T : Tx K mg) : Own05 K := ⟨T.ringK, T.kitR⟩
theorem Tx.f_is_integer {K : Fr'} {mg : Str → Option Value} (T : Tx K mg) : FunD K "is_integer" "is_integer" (defArgs st_is_integer) (defBody st_is_integer) (defScope st_is_integer) (d_is_integer.dvs K) (d_is_integer.kws K) (He.ga K "is_integer") (fdOf K (He.ga K "is_integer")) := T.c.def_ 0 (d := d_is_integer)
theorem Tx.k_is_integer {K : Fr'} {mg : Str → Option Value} (T : Tx K mg) : PySem.W.keepIn K (.ref (He.ga K "is_integer")) = true := T.f_is_integer.kp
theorem Tx.b_is_integer {K : Fr'} {mg : Str → Option Value} (T : Tx K mg) : Binds K (fdOf K (He.ga K "is_integer")) ["value"] [] := FunD.bindsN (kws := d_is_integer.kws K) (T.f_is_integer) fun _ _ _ _ _ _ us hl => match us, hl with | [_], _ => rfl
theorem Tx.f_is_within {K : Fr'} {mg : Str → Option Value} (T : Tx K mg) : FunD K "is_within" "is_within" (defArgs st_is_within) (defBody st_is_within) (defScope st_is_within) (d_is_within.dvs K) (d_is_within.kws K) (He.ga K "is_within") (fdOf K (He.ga K "is_within")) := T.c.def_ 1 (d := d_is_within)
theorem Tx.k_is_within {K : Fr'} {mg : Str → Option Value} (T : Tx K mg) : PySem.W.keepIn K (.ref (He.ga K "is_within")) = true := T.f_is_within.kp
theorem Tx.b_is_within {K : Fr'} {mg : Str → Option Value} (T : Tx K mg) : Binds K (fdOf K (He.ga K "is_within")) ["value", "least", "most"] [] := FunD.bindsN (kws := d_is_within.kws K) (T.f_is_within) fun _ _ _ _ _ _ us hl => match us, hl with | [_, _, _], _ => rfl
theorem Tx.f_is_word {K : Fr'} {mg : Str → Option Value} (T : Tx K mg) : FunD K "is_word" "is_word" (defArgs st_is_word) (defBody st_is_word) (defScope st_is_word) (d_is_word.dvs K) (d_is_word.kws K) (He.ga K "is_word") (fdOf K (He.ga K "is_word")) := T.c.def_ 2 (d := d_is_word)
theorem Tx.k_is_word {K : Fr'} {mg : Str → Option Value} (T : Tx K mg) : PySem.W.keepIn K (.ref (He.ga K "is_word")) = true := T.f_is_word.kp
theorem Tx.bd1_is_word {K : Fr'} {mg : Str → Option Value} (T : Tx K mg) : ∃ ds, Vals [(vS LET)] ds ∧ Binds K (fdOf K (He.ga K "is_word")) ["value", "signs"] ds := by
  have h := FunD.binds1 (ps := ["value", "signs"]) (T.f_is_word) 1 0 (by simp [d_is_word, He5.DefA.dvs]) (by rfl) (fun _ _ _ _ _ _ _ us its h1 h2 => match us, its, h1, h2 with | [_], [_], _, _ => ⟨_, rfl, rfl⟩)
  obtain ⟨ds, hv, hb⟩ := h
  refine ⟨ds, ?_, hb⟩
  have e : (d_is_word.dvs K).drop 0 = [(vS LET)] := by
    simp only [d_is_word, He5.DefA.dvs, List.map, List.drop, He.Dv.v, lit_abc]
  rw [← e]
  exact hv
theorem Tx.f_is_row {K : Fr'} {mg : Str → Option Value} (T : Tx K mg) : FunD K "is_row" "is_row" (defArgs st_is_row) (defBody st_is_row) (defScope st_is_row) (d_is_row.dvs K) (d_is_row.kws K) (He.ga K "is_row") (fdOf K (He.ga K "is_row")) := T.c.def_ 3 (d := d_is_row)
theorem Tx.k_is_row {K : Fr'} {mg : Str → Option Value} (T : Tx K mg) : PySem.W.keepIn K (.ref (He.ga K "is_row")) = true := T.f_is_row.kp
theorem Tx.b_is_row {K : Fr'} {mg : Str → Option Value} (T : Tx K mg) : Binds K (fdOf K (He.ga K "is_row")) ["value", "length"] [] := FunD.bindsN (kws := d_is_row.kws K) (T.f_is_row) fun _ _ _ _ _ _ us hl => match us, hl with | [_, _], _ => rfl
theorem Tx.f_least_turning {K : Fr'} {mg : Str → Option Value} (T : Tx K mg) : FunD K "least_turning" "least_turning" (defArgs st_least_turning) (defBody st_least_turning) (defScope st_least_turning) (d_least_turning.dvs K) (d_least_turning.kws K) (He.ga K "least_turning") (fdOf K (He.ga K "least_turning")) := T.c.def_ 4 (d := d_least_turning)
theorem Tx.k_least_turning {K : Fr'} {mg : Str → Option Value} (T : Tx K mg) : PySem.W.keepIn K (.ref (He.ga K "least_turning")) = true := T.f_least_turning.kp
theorem Tx.b_least_turning {K : Fr'} {mg : Str → Option Value} (T : Tx K mg) : Binds K (fdOf K (He.ga K "least_turning")) ["text"] [] := FunD.bindsN (kws := d_least_turning.kws K) (T.f_least_turning) fun _ _ _ _ _ _ us hl => match us, hl with | [_], _ => rfl
theorem Tx.f_Ring_init {K : Fr'} {mg : Str → Option Value} (T : Tx K mg) : FunD K "__init__" "Ring.__init__" (defArgs st_Ring_init) (defBody st_Ring_init) (defScope st_Ring_init) (d_Ring_init.dvs K) (d_Ring_init.kws K) (He.ma K (He.ga K "Ring") "__init__") (fdOf K (He.ma K (He.ga K "Ring") "__init__")) := T.c.def_ 5 (d := d_Ring_init)
theorem Tx.b_Ring_init {K : Fr'} {mg : Str → Option Value} (T : Tx K mg) : Binds K (fdOf K (He.ma K (He.ga K "Ring") "__init__")) ["self", "text"] [] := FunD.bindsN (kws := d_Ring_init.kws K) (T.f_Ring_init) fun _ _ _ _ _ _ us hl => match us, hl with | [_, _], _ => rfl
theorem Tx.f_Ring_text {K : Fr'} {mg : Str → Option Value} (T : Tx K mg) : FunD K "text" "Ring.text" (defArgs st_Ring_text) (defBody st_Ring_text) (defScope st_Ring_text) (d_Ring_text.dvs K) (d_Ring_text.kws K) (He5.wf K (He.ga K "Ring") "property" "text") (fdOf K (He5.wf K (He.ga K "Ring") "property" "text")) := T.c.def_ 6 (d := d_Ring_text)
theorem Tx.b_Ring_text {K : Fr'} {mg : Str → Option Value} (T : Tx K mg) : Binds K (fdOf K (He5.wf K (He.ga K "Ring") "property" "text")) ["self"] [] := FunD.bindsN (kws := d_Ring_text.kws K) (T.f_Ring_text) fun _ _ _ _ _ _ us hl => match us, hl with | [_], _ => rfl
theorem Tx.f_Ring_stretch {K : Fr'} {mg : Str → Option Value} (T : Tx K mg) : FunD K "stretch" "Ring.stretch" (defArgs st_Ring_stretch) (defBody st_Ring_stretch) (defScope st_Ring_stretch) (d_Ring_stretch.dvs K) (d_Ring_stretch.kws K) (He.ma K (He.ga K "Ring") "stretch") (fdOf K (He.ma K (He.ga K "Ring") "stretch")) := T.c.def_ 7 (d := d_Ring_stretch)
theorem Tx.b_Ring_stretch {K : Fr'} {mg : Str → Option Value} (T : Tx K mg) : Binds K (fdOf K (He.ma K (He.ga K "Ring") "stretch")) ["self", "place", "number"] [] := FunD.bindsN (kws := d_Ring_stretch.kws K) (T.f_Ring_stretch) fun _ _ _ _ _ _ us hl => match us, hl with | [_, _, _], _ => rfl
theorem Tx.f_Ring_turned {K : Fr'} {mg : Str → Option Value} (T : Tx K mg) : FunD K "turned" "Ring.turned" (defArgs st_Ring_turned) (defBody st_Ring_turned) (defScope st_Ring_turned) (d_Ring_turned.dvs K) (d_Ring_turned.kws K) (He.ma K (He.ga K "Ring") "turned") (fdOf K (He.ma K (He.ga K "Ring") "turned")) := T.c.def_ 8 (d := d_Ring_turned)
theorem Tx.b_Ring_turned {K : Fr'} {mg : Str → Option Value} (T : Tx K mg) : Binds K (fdOf K (He.ma K (He.ga K "Ring") "turned")) ["self", "i"] [] := FunD.bindsN (kws := d_Ring_turned.kws K) (T.f_Ring_turned) fun _ _ _ _ _ _ us hl => match us, hl with | [_, _], _ => rfl
theorem Tx.f_Ring_len {K : Fr'} {mg : Str → Option Value} (T : Tx K mg) : FunD K "__len__" "Ring.__len__" (defArgs st_Ring_len) (defBody st_Ring_len) (defScope st_Ring_len) (d_Ring_len.dvs K) (d_Ring_len.kws K) (He.ma K (He.ga K "Ring") "__len__") (fdOf K (He.ma K (He.ga K "Ring") "__len__")) := T.c.def_ 9 (d := d_Ring_len)
theorem Tx.b_Ring_len {K : Fr'} {mg : Str → Option Value} (T : Tx K mg) : Binds K (fdOf K (He.ma K (He.ga K "Ring") "__len__")) ["self"] [] := FunD.bindsN (kws := d_Ring_len.kws K) (T.f_Ring_len) fun _ _ _ _ _ _ us hl => match us, hl with | [_], _ => rfl
theorem Tx.f_Ring_eq {K : Fr'} {mg : Str → Option Value} (T : Tx K mg) : FunD K "__eq__" "Ring.__eq__" (defArgs st_Ring_eq) (defBody st_Ring_eq) (defScope st_Ring_eq) (d_Ring_eq.dvs K) (d_Ring_eq.kws K) (He.ma K (He.ga K "Ring") "__eq__") (fdOf K (He.ma K (He.ga K "Ring") "__eq__")) := T.c.def_ 10 (d := d_Ring_eq)
theorem Tx.b_Ring_eq {K : Fr'} {mg : Str → Option Value} (T : Tx K mg) : Binds K (fdOf K (He.ma K (He.ga K "Ring") "__eq__")) ["self", "other"] [] := FunD.bindsN (kws := d_Ring_eq.kws K) (T.f_Ring_eq) fun _ _ _ _ _ _ us hl => match us, hl with | [_, _], _ => rfl
theorem Tx.f_Ring_getitem {K : Fr'} {mg : Str → Option Value} (T : Tx K mg) : FunD K "__getitem__" "Ring.__getitem__" (defArgs st_Ring_getitem) (defBody st_Ring_getitem) (defScope st_Ring_getitem) (d_Ring_getitem.dvs K) (d_Ring_getitem.kws K) (He.ma K (He.ga K "Ring") "__getitem__") (fdOf K (He.ma K (He.ga K "Ring") "__getitem__")) := T.c.def_ 11 (d := d_Ring_getitem)
theorem Tx.b_Ring_getitem {K : Fr'} {mg : Str → Option Value} (T : Tx K mg) : Binds K (fdOf K (He.ma K (He.ga K "Ring") "__getitem__")) ["self", "at"] [] := FunD.bindsN (kws := d_Ring_getitem.kws K) (T.f_Ring_getitem) fun _ _ _ _ _ _ us hl => match us, hl with | [_, _], _ => rfl
theorem Tx.f_Ring_mul {K : Fr'} {mg : Str → Option Value} (T : Tx K mg) : FunD K "__mul__" "Ring.__mul__" (defArgs st_Ring_mul) (defBody st_Ring_mul) (defScope st_Ring_mul) (d_Ring_mul.dvs K) (d_Ring_mul.kws K) (He.ma K (He.ga K "Ring") "__mul__") (fdOf K (He.ma K (He.ga K "Ring") "__mul__")) := T.c.def_ 12 (d := d_Ring_mul)
theorem Tx.b_Ring_mul {K : Fr'} {mg : Str → Option Value} (T : Tx K mg) : Binds K (fdOf K (He.ma K (He.ga K "Ring") "__mul__")) ["self", "times"] [] := FunD.bindsN (kws := d_Ring_mul.kws K) (T.f_Ring_mul) fun _ _ _ _ _ _ us hl => match us, hl with | [_, _], _ => rfl
theorem Tx.f_Ring_add {K : Fr'} {mg : Str → Option Value} (T : Tx K mg) : FunD K "__add__" "Ring.__add__" (defArgs st_Ring_add) (defBody st_Ring_add) (defScope st_Ring_add) (d_Ring_add.dvs K) (d_Ring_add.kws K) (He.ma K (He.ga K "Ring") "__add__") (fdOf K (He.ma K (He.ga K "Ring") "__add__")) := T.c.def_ 13 (d := d_Ring_add)
theorem Tx.b_Ring_add {K : Fr'} {mg : Str → Option Value} (T : Tx K mg) : Binds K (fdOf K (He.ma K (He.ga K "Ring") "__add__")) ["self", "other"] [] := FunD.bindsN (kws := d_Ring_add.kws K) (T.f_Ring_add) fun _ _ _ _ _ _ us hl => match us, hl with | [_, _], _ => rfl
theorem Tx.f_law_cell {K : Fr'} {mg : Str → Option Value} (T : Tx K mg) : FunD K "_law_cell" "_law_cell" (defArgs st_law_cell) (defBody st_law_cell) (defScope st_law_cell) (d_law_cell.dvs K) (d_law_cell.kws K) (He.ga K "_law_cell") (fdOf K (He.ga K "_law_cell")) := T.c.def_ 14 (d := d_law_cell)
theorem Tx.k_law_cell {K : Fr'} {mg : Str → Option Value} (T : Tx K mg) : PySem.W.keepIn K (.ref (He.ga K "_law_cell")) = true := T.f_law_cell.kp
theorem Tx.b_law_cell {K : Fr'} {mg : Str → Option Value} (T : Tx K mg) : Binds K (fdOf K (He.ga K "_law_cell")) ["_law_script", "_law_k"] [] := FunD.bindsN (kws := d_law_cell.kws K) (T.f_law_cell) fun _ _ _ _ _ _ us hl => match us, hl with | [_, _], _ => rfl
theorem Tx.f_law_pool {K : Fr'} {mg : Str → Option Value} (T : Tx K mg) : FunD K "_law_pool" "_law_pool" (defArgs st_law_pool) (defBody st_law_pool) (defScope st_law_pool) (d_law_pool.dvs K) (d_law_pool.kws K) (He.ga K "_law_pool") (fdOf K (He.ga K "_law_pool")) := T.c.def_ 15 (d := d_law_pool)
theorem Tx.k_law_pool {K : Fr'} {mg : Str → Option Value} (T : Tx K mg) : PySem.W.keepIn K (.ref (He.ga K "_law_pool")) = true := T.f_law_pool.kp
theorem Tx.b_law_pool {K : Fr'} {mg : Str → Option Value} (T : Tx K mg) : Binds K (fdOf K (He.ga K "_law_pool")) ["_law_cell_here"] [] := FunD.bindsN (kws := d_law_pool.kws K) (T.f_law_pool) fun _ _ _ _ _ _ us hl => match us, hl with | [_], _ => rfl
theorem Tx.f_law_draw {K : Fr'} {mg : Str → Option Value} (T : Tx K mg) : FunD K "_law_draw" "_law_draw" (defArgs st_law_draw) (defBody st_law_draw) (defScope st_law_draw) (d_law_draw.dvs K) (d_law_draw.kws K) (He.ga K "_law_draw") (fdOf K (He.ga K "_law_draw")) := T.c.def_ 16 (d := d_law_draw)
theorem Tx.k_law_draw {K : Fr'} {mg : Str → Option Value} (T : Tx K mg) : PySem.W.keepIn K (.ref (He.ga K "_law_draw")) = true := T.f_law_draw.kp
theorem Tx.b_law_draw {K : Fr'} {mg : Str → Option Value} (T : Tx K mg) : Binds K (fdOf K (He.ga K "_law_draw")) ["_law_pool_here", "_law_many"] [] := FunD.bindsN (kws := d_law_draw.kws K) (T.f_law_draw) fun _ _ _ _ _ _ us hl => match us, hl with | [_, _], _ => rfl
theorem Tx.f_law_faceR {K : Fr'} {mg : Str → Option Value} (T : Tx K mg) : FunD K "_law_face" "_law_face" (defArgs st_law_faceR) (defBody st_law_faceR) (defScope st_law_faceR) (d_law_faceR.dvs K) (d_law_faceR.kws K) (He.ga K "_law_face") (fdOf K (He.ga K "_law_face")) := T.c.def_ 17 (d := d_law_faceR)
theorem Tx.k_law_faceR {K : Fr'} {mg : Str → Option Value} (T : Tx K mg) : PySem.W.keepIn K (.ref (He.ga K "_law_face")) = true := T.f_law_faceR.kp
theorem Tx.b_law_faceR {K : Fr'} {mg : Str → Option Value} (T : Tx K mg) : Binds K (fdOf K (He.ga K "_law_face")) ["_law_thing"] [] := FunD.bindsN (kws := d_law_faceR.kws K) (T.f_law_faceR) fun _ _ _ _ _ _ us hl => match us, hl with | [_], _ => rfl
theorem Tx.f_law_wholeK {K : Fr'} {mg : Str → Option Value} (T : Tx K mg) : FunD K "_law_whole" "_law_whole" (defArgs st_law_wholeK) (defBody st_law_wholeK) (defScope st_law_wholeK) (d_law_wholeK.dvs K) (d_law_wholeK.kws K) (He.ga K "_law_whole") (fdOf K (He.ga K "_law_whole")) := T.c.def_ 18 (d := d_law_wholeK)
theorem Tx.k_law_wholeK {K : Fr'} {mg : Str → Option Value} (T : Tx K mg) : PySem.W.keepIn K (.ref (He.ga K "_law_whole")) = true := T.f_law_wholeK.kp
theorem Tx.b_law_wholeK {K : Fr'} {mg : Str → Option Value} (T : Tx K mg) : Binds K (fdOf K (He.ga K "_law_whole")) ["_law_thing"] [] := FunD.bindsN (kws := d_law_wholeK.kws K) (T.f_law_wholeK) fun _ _ _ _ _ _ us hl => match us, hl with | [_], _ => rfl
theorem Tx.f_law_odd {K : Fr'} {mg : Str → Option Value} (T : Tx K mg) : FunD K "_law_odd" "_law_odd" (defArgs st_law_odd) (defBody st_law_odd) (defScope st_law_odd) (d_law_odd.dvs K) (d_law_odd.kws K) (He.ga K "_law_odd") (fdOf K (He.ga K "_law_odd")) := T.c.def_ 19 (d := d_law_odd)
theorem Tx.k_law_odd {K : Fr'} {mg : Str → Option Value} (T : Tx K mg) : PySem.W.keepIn K (.ref (He.ga K "_law_odd")) = true := T.f_law_odd.kp
theorem Tx.b_law_odd {K : Fr'} {mg : Str → Option Value} (T : Tx K mg) : Binds K (fdOf K (He.ga K "_law_odd")) ["_law_pool_here"] [] := FunD.bindsN (kws := d_law_odd.kws K) (T.f_law_odd) fun _ _ _ _ _ _ us hl => match us, hl with | [_], _ => rfl
theorem Tx.f_law_signs {K : Fr'} {mg : Str → Option Value} (T : Tx K mg) : FunD K "_law_signs" "_law_signs" (defArgs st_law_signs) (defBody st_law_signs) (defScope st_law_signs) (d_law_signs.dvs K) (d_law_signs.kws K) (He.ga K "_law_signs") (fdOf K (He.ga K "_law_signs")) := T.c.def_ 20 (d := d_law_signs)
theorem Tx.k_law_signs {K : Fr'} {mg : Str → Option Value} (T : Tx K mg) : PySem.W.keepIn K (.ref (He.ga K "_law_signs")) = true := T.f_law_signs.kp
theorem Tx.b_law_signs {K : Fr'} {mg : Str → Option Value} (T : Tx K mg) : Binds K (fdOf K (He.ga K "_law_signs")) ["_law_pool_here", "_law_most"] [] := FunD.bindsN (kws := d_law_signs.kws K) (T.f_law_signs) fun _ _ _ _ _ _ us hl => match us, hl with | [_, _], _ => rfl
theorem Tx.f_law_word {K : Fr'} {mg : Str → Option Value} (T : Tx K mg) : FunD K "_law_word" "_law_word" (defArgs st_law_word) (defBody st_law_word) (defScope st_law_word) (d_law_word.dvs K) (d_law_word.kws K) (He.ga K "_law_word") (fdOf K (He.ga K "_law_word")) := T.c.def_ 21 (d := d_law_word)
theorem Tx.k_law_word {K : Fr'} {mg : Str → Option Value} (T : Tx K mg) : PySem.W.keepIn K (.ref (He.ga K "_law_word")) = true := T.f_law_word.kp
theorem Tx.b_law_word {K : Fr'} {mg : Str → Option Value} (T : Tx K mg) : Binds K (fdOf K (He.ga K "_law_word")) ["_law_pool_here", "_law_abc", "_law_most"] [] := FunD.bindsN (kws := d_law_word.kws K) (T.f_law_word) fun _ _ _ _ _ _ us hl => match us, hl with | [_, _, _], _ => rfl
theorem Tx.f_law_long {K : Fr'} {mg : Str → Option Value} (T : Tx K mg) : FunD K "_law_long" "_law_long" (defArgs st_law_long) (defBody st_law_long) (defScope st_law_long) (d_law_long.dvs K) (d_law_long.kws K) (He.ga K "_law_long") (fdOf K (He.ga K "_law_long")) := T.c.def_ 22 (d := d_law_long)
theorem Tx.k_law_long {K : Fr'} {mg : Str → Option Value} (T : Tx K mg) : PySem.W.keepIn K (.ref (He.ga K "_law_long")) = true := T.f_law_long.kp
theorem Tx.b_law_long {K : Fr'} {mg : Str → Option Value} (T : Tx K mg) : Binds K (fdOf K (He.ga K "_law_long")) ["_law_pool_here", "_law_most"] [] := FunD.bindsN (kws := d_law_long.kws K) (T.f_law_long) fun _ _ _ _ _ _ us hl => match us, hl with | [_, _], _ => rfl
theorem Tx.f_law_is_word {K : Fr'} {mg : Str → Option Value} (T : Tx K mg) : FunD K "_law_is_word" "_law_is_word" (defArgs st_law_is_word) (defBody st_law_is_word) (defScope st_law_is_word) (d_law_is_word.dvs K) (d_law_is_word.kws K) (He.ga K "_law_is_word") (fdOf K (He.ga K "_law_is_word")) := T.c.def_ 23 (d := d_law_is_word)
theorem Tx.k_law_is_word {K : Fr'} {mg : Str → Option Value} (T : Tx K mg) : PySem.W.keepIn K (.ref (He.ga K "_law_is_word")) = true := T.f_law_is_word.kp
theorem Tx.b_law_is_word {K : Fr'} {mg : Str → Option Value} (T : Tx K mg) : Binds K (fdOf K (He.ga K "_law_is_word")) ["_law_thing", "_law_abc"] [] := FunD.bindsN (kws := d_law_is_word.kws K) (T.f_law_is_word) fun _ _ _ _ _ _ us hl => match us, hl with | [_, _], _ => rfl
theorem Tx.f_law_heard05 {K : Fr'} {mg : Str → Option Value} (T : Tx K mg) : FunD K "_law_heard" "_law_heard" (defArgs st_law_heard05) (defBody st_law_heard05) (defScope st_law_heard05) (d_law_heard05.dvs K) (d_law_heard05.kws K) (He.ga K "_law_heard") (fdOf K (He.ga K "_law_heard")) := T.c.def_ 24 (d := d_law_heard05)
theorem Tx.b_law_heard05 {K : Fr'} {mg : Str → Option Value} (T : Tx K mg) : Binds K (fdOf K (He.ga K "_law_heard")) ["_law_act"] [] := FunD.bindsN (kws := d_law_heard05.kws K) (T.f_law_heard05) fun _ _ _ _ _ _ us hl => match us, hl with | [_], _ => rfl
theorem Tx.f_law_due05 {K : Fr'} {mg : Str → Option Value} (T : Tx K mg) : FunD K "_law_due" "_law_due" (defArgs st_law_due05) (defBody st_law_due05) (defScope st_law_due05) (d_law_due05.dvs K) (d_law_due05.kws K) (He.ga K "_law_due") (fdOf K (He.ga K "_law_due")) := T.c.def_ 25 (d := d_law_due05)
theorem Tx.k_law_due05 {K : Fr'} {mg : Str → Option Value} (T : Tx K mg) : PySem.W.keepIn K (.ref (He.ga K "_law_due")) = true := T.f_law_due05.kp
theorem Tx.b_law_due05 {K : Fr'} {mg : Str → Option Value} (T : Tx K mg) : Binds K (fdOf K (He.ga K "_law_due")) ["_law_word_here", "_law_thing"] [] := FunD.bindsN (kws := d_law_due05.kws K) (T.f_law_due05) fun _ _ _ _ _ _ us hl => match us, hl with | [_, _], _ => rfl
theorem Tx.f_law_spoilt05 {K : Fr'} {mg : Str → Option Value} (T : Tx K mg) : FunD K "_law_spoilt" "_law_spoilt" (defArgs st_law_spoilt05) (defBody st_law_spoilt05) (defScope st_law_spoilt05) (d_law_spoilt05.dvs K) (d_law_spoilt05.kws K) (He.ga K "_law_spoilt") (fdOf K (He.ga K "_law_spoilt")) := T.c.def_ 26 (d := d_law_spoilt05)
theorem Tx.k_law_spoilt05 {K : Fr'} {mg : Str → Option Value} (T : Tx K mg) : PySem.W.keepIn K (.ref (He.ga K "_law_spoilt")) = true := T.f_law_spoilt05.kp
theorem Tx.b_law_spoilt05 {K : Fr'} {mg : Str → Option Value} (T : Tx K mg) : Binds K (fdOf K (He.ga K "_law_spoilt")) ["_law_pool_here", "_law_word_here"] [] := FunD.bindsN (kws := d_law_spoilt05.kws K) (T.f_law_spoilt05) fun _ _ _ _ _ _ us hl => match us, hl with | [_, _], _ => rfl
theorem Tx.f_law_spot05 {K : Fr'} {mg : Str → Option Value} (T : Tx K mg) : FunD K "_law_spot" "_law_spot" (defArgs st_law_spot05) (defBody st_law_spot05) (defScope st_law_spot05) (d_law_spot05.dvs K) (d_law_spot05.kws K) (He.ga K "_law_spot") (fdOf K (He.ga K "_law_spot")) := T.c.def_ 27 (d := d_law_spot05)
theorem Tx.k_law_spot05 {K : Fr'} {mg : Str → Option Value} (T : Tx K mg) : PySem.W.keepIn K (.ref (He.ga K "_law_spot")) = true := T.f_law_spot05.kp
theorem Tx.b_law_spot05 {K : Fr'} {mg : Str → Option Value} (T : Tx K mg) : Binds K (fdOf K (He.ga K "_law_spot")) ["_law_pool_here"] [] := FunD.bindsN (kws := d_law_spot05.kws K) (T.f_law_spot05) fun _ _ _ _ _ _ us hl => match us, hl with | [_], _ => rfl
theorem Tx.f_law_spot_due {K : Fr'} {mg : Str → Option Value} (T : Tx K mg) : FunD K "_law_spot_due" "_law_spot_due" (defArgs st_law_spot_due) (defBody st_law_spot_due) (defScope st_law_spot_due) (d_law_spot_due.dvs K) (d_law_spot_due.kws K) (He.ga K "_law_spot_due") (fdOf K (He.ga K "_law_spot_due")) := T.c.def_ 28 (d := d_law_spot_due)
theorem Tx.k_law_spot_due {K : Fr'} {mg : Str → Option Value} (T : Tx K mg) : PySem.W.keepIn K (.ref (He.ga K "_law_spot_due")) = true := T.f_law_spot_due.kp
theorem Tx.b_law_spot_due {K : Fr'} {mg : Str → Option Value} (T : Tx K mg) : Binds K (fdOf K (He.ga K "_law_spot_due")) ["_law_spot_here"] [] := FunD.bindsN (kws := d_law_spot_due.kws K) (T.f_law_spot_due) fun _ _ _ _ _ _ us hl => match us, hl with | [_], _ => rfl
theorem Tx.f_law_times_due {K : Fr'} {mg : Str → Option Value} (T : Tx K mg) : FunD K "_law_times_due" "_law_times_due" (defArgs st_law_times_due) (defBody st_law_times_due) (defScope st_law_times_due) (d_law_times_due.dvs K) (d_law_times_due.kws K) (He.ga K "_law_times_due") (fdOf K (He.ga K "_law_times_due")) := T.c.def_ 29 (d := d_law_times_due)
theorem Tx.k_law_times_due {K : Fr'} {mg : Str → Option Value} (T : Tx K mg) : PySem.W.keepIn K (.ref (He.ga K "_law_times_due")) = true := T.f_law_times_due.kp
theorem Tx.b_law_times_due {K : Fr'} {mg : Str → Option Value} (T : Tx K mg) : Binds K (fdOf K (He.ga K "_law_times_due")) ["_law_times", "_law_size"] [] := FunD.bindsN (kws := d_law_times_due.kws K) (T.f_law_times_due) fun _ _ _ _ _ _ us hl => match us, hl with | [_, _], _ => rfl
theorem Tx.f_law_right05 {K : Fr'} {mg : Str → Option Value} (T : Tx K mg) : FunD K "_law_right" "_law_right" (defArgs st_law_right05) (defBody st_law_right05) (defScope st_law_right05) (d_law_right05.dvs K) (d_law_right05.kws K) (He.ga K "_law_right") (fdOf K (He.ga K "_law_right")) := T.c.def_ 30 (d := d_law_right05)
theorem Tx.k_law_right05 {K : Fr'} {mg : Str → Option Value} (T : Tx K mg) : PySem.W.keepIn K (.ref (He.ga K "_law_right")) = true := T.f_law_right05.kp
theorem Tx.b_law_right05 {K : Fr'} {mg : Str → Option Value} (T : Tx K mg) : Binds K (fdOf K (He.ga K "_law_right")) ["_law_pool_here"] [] := FunD.bindsN (kws := d_law_right05.kws K) (T.f_law_right05) fun _ _ _ _ _ _ us hl => match us, hl with | [_], _ => rfl
theorem Tx.f_law_at_the_limit {K : Fr'} {mg : Str → Option Value} (T : Tx K mg) : FunD K "_law_at_the_limit" "_law_at_the_limit" (defArgs st_law_at_the_limit) (defBody st_law_at_the_limit) (defScope st_law_at_the_limit) (d_law_at_the_limit.dvs K) (d_law_at_the_limit.kws K) (He.ga K "_law_at_the_limit") (fdOf K (He.ga K "_law_at_the_limit")) := T.c.def_ 31 (d := d_law_at_the_limit)
theorem Tx.k_law_at_the_limit {K : Fr'} {mg : Str → Option Value} (T : Tx K mg) : PySem.W.keepIn K (.ref (He.ga K "_law_at_the_limit")) = true := T.f_law_at_the_limit.kp
theorem Tx.b_law_at_the_limit {K : Fr'} {mg : Str → Option Value} (T : Tx K mg) : Binds K (fdOf K (He.ga K "_law_at_the_limit")) [] [] := FunD.bindsN (kws := d_law_at_the_limit.kws K) (T.f_law_at_the_limit) fun _ _ _ _ _ _ us hl => match us, hl with | [], _ => rfl
theorem Tx.f_law05 {K : Fr'} {mg : Str → Option Value} (T : Tx K mg) : FunD K "law" "law" (defArgs st_law05) (defBody st_law05) (defScope st_law05) (d_law05.dvs K) (d_law05.kws K) (He.ga K "law") (fdOf K (He.ga K "law")) := T.c.def_ 32 (d := d_law05)
theorem Tx.f_InvalidWord_init {K : Fr'} {mg : Str → Option Value} (T : Tx K mg) : FunD K "__init__" "InvalidWord.__init__" (defArgs st_InvalidWord_init) (defBody st_InvalidWord_init) (defScope st_InvalidWord_init) (d_InvalidWord_init.dvs K) (d_InvalidWord_init.kws K) (He.ma K (He.ga K "InvalidWord") "__init__") (fdOf K (He.ma K (He.ga K "InvalidWord") "__init__")) := T.c.def_ 33 (d := d_InvalidWord_init)
theorem Tx.b_InvalidWord_init {K : Fr'} {mg : Str → Option Value} (T : Tx K mg) : Binds K (fdOf K (He.ma K (He.ga K "InvalidWord") "__init__")) ["self", "given"] [] := FunD.bindsN (kws := d_InvalidWord_init.kws K) (T.f_InvalidWord_init) fun _ _ _ _ _ _ us hl => match us, hl with | [_, _], _ => rfl
theorem Tx.f_InvalidPlace_init {K : Fr'} {mg : Str → Option Value} (T : Tx K mg) : FunD K "__init__" "InvalidPlace.__init__" (defArgs st_InvalidPlace_init) (defBody st_InvalidPlace_init) (defScope st_InvalidPlace_init) (d_InvalidPlace_init.dvs K) (d_InvalidPlace_init.kws K) (He.ma K (He.ga K "InvalidPlace") "__init__") (fdOf K (He.ma K (He.ga K "InvalidPlace") "__init__")) := T.c.def_ 34 (d := d_InvalidPlace_init)
theorem Tx.b_InvalidPlace_init {K : Fr'} {mg : Str → Option Value} (T : Tx K mg) : Binds K (fdOf K (He.ma K (He.ga K "InvalidPlace") "__init__")) ["self", "given"] [] := FunD.bindsN (kws := d_InvalidPlace_init.kws K) (T.f_InvalidPlace_init) fun _ _ _ _ _ _ us hl => match us, hl with | [_, _], _ => rfl
theorem Tx.f_InvalidNumber_init {K : Fr'} {mg : Str → Option Value} (T : Tx K mg) : FunD K "__init__" "InvalidNumber.__init__" (defArgs st_InvalidNumber_init) (defBody st_InvalidNumber_init) (defScope st_InvalidNumber_init) (d_InvalidNumber_init.dvs K) (d_InvalidNumber_init.kws K) (He.ma K (He.ga K "InvalidNumber") "__init__") (fdOf K (He.ma K (He.ga K "InvalidNumber") "__init__")) := T.c.def_ 35 (d := d_InvalidNumber_init)
theorem Tx.b_InvalidNumber_init {K : Fr'} {mg : Str → Option Value} (T : Tx K mg) : Binds K (fdOf K (He.ma K (He.ga K "InvalidNumber") "__init__")) ["self", "given"] [] := FunD.bindsN (kws := d_InvalidNumber_init.kws K) (T.f_InvalidNumber_init) fun _ _ _ _ _ _ us hl => match us, hl with | [_, _], _ => rfl
theorem Tx.f_NotARing_init {K : Fr'} {mg : Str → Option Value} (T : Tx K mg) : FunD K "__init__" "NotARing.__init__" (defArgs st_NotARing_init) (defBody st_NotARing_init) (defScope st_NotARing_init) (d_NotARing_init.dvs K) (d_NotARing_init.kws K) (He.ma K (He.ga K "NotARing") "__init__") (fdOf K (He.ma K (He.ga K "NotARing") "__init__")) := T.c.def_ 36 (d := d_NotARing_init)
theorem Tx.b_NotARing_init {K : Fr'} {mg : Str → Option Value} (T : Tx K mg) : Binds K (fdOf K (He.ma K (He.ga K "NotARing") "__init__")) ["self", "given"] [] := FunD.bindsN (kws := d_NotARing_init.kws K) (T.f_NotARing_init) fun _ _ _ _ _ _ us hl => match us, hl with | [_, _], _ => rfl
theorem Tx.tu_law_right05 {K : Fr'} {mg : Str → Option Value} (T : Tx K mg) : ∀ p ∈ tabs05 K, p.1 = (He.cT K ("_law_right", none)).2 → p.2 = ("_law_right" ++ ".<locals>.") ++ "<lambda>" := tabsD_ok (i := 0) T.tabd rfl
theorem Tx.tu_law_at_the_limit {K : Fr'} {mg : Str → Option Value} (T : Tx K mg) : ∀ p ∈ tabs05 K, p.1 = (He.cT K ("_law_at_the_limit", none)).2 → p.2 = ("_law_at_the_limit" ++ ".<locals>.") ++ "<lambda>" := tabsD_ok (i := 1) T.tabd rfl
theorem sc_InvalidWord_init : FnScope ["self", "given"] ["self", "given"] (defScope st_InvalidWord_init) := ⟨rfl, rfl, rfl, by decide +kernel, rfl, by decide +kernel, by decide +kernel⟩
theorem sc_InvalidPlace_init : FnScope ["self", "given"] ["self", "given"] (defScope st_InvalidPlace_init) := ⟨rfl, rfl, rfl, by decide +kernel, rfl, by decide +kernel, by decide +kernel⟩
theorem sc_InvalidNumber_init : FnScope ["self", "given"] ["self", "given"] (defScope st_InvalidNumber_init) := ⟨rfl, rfl, rfl, by decide +kernel, rfl, by decide +kernel, by decide +kernel⟩
theorem sc_NotARing_init : FnScope ["self", "given"] ["self", "given"] (defScope st_NotARing_init) := ⟨rfl, rfl, rfl, by decide +kernel, rfl, by decide +kernel, by decide +kernel⟩
def tabX (K : Fr') (i : Nat) : Addr × Addr := He.cT K (((["_law_right", "_law_at_the_limit"] : List Str).getD i ""), none)
section
variable {P : Program} {w : World} {K : Fr'} {mg : Str → Option Value} {base : Heap}
theorem ok_InvalidWord_init (T : Tx K mg) : FnOk P w K mg base CX0 1 (He.ma K (He.ga K "InvalidWord") "__init__") (fdOf K (He.ma K (He.ga K "InvalidWord") "__init__")) ["self", "given"] (sp_exc K (He.ga K "InvalidWord") "given") := by
  have sc := sc_InvalidWord_init
  refine T.f_InvalidWord_init.ok sc (fun vs H Q E h => ?_) (fun cdv A outer s H vs Q E hr h => ⟨t_exc K "given", PSs.nox ?_, pure_exc rfl h⟩)
  · obtain ⟨_, _, rfl, _⟩ := h
    rfl
  · exact (pss_one (ps_ost (pv 0) (pv 1)))
theorem ok_InvalidPlace_init (T : Tx K mg) : FnOk P w K mg base CX0 1 (He.ma K (He.ga K "InvalidPlace") "__init__") (fdOf K (He.ma K (He.ga K "InvalidPlace") "__init__")) ["self", "given"] (sp_exc K (He.ga K "InvalidPlace") "given") := by
  have sc := sc_InvalidPlace_init
  refine T.f_InvalidPlace_init.ok sc (fun vs H Q E h => ?_) (fun cdv A outer s H vs Q E hr h => ⟨t_exc K "given", PSs.nox ?_, pure_exc rfl h⟩)
  · obtain ⟨_, _, rfl, _⟩ := h
    rfl
  · exact (pss_one (ps_ost (pv 0) (pv 1)))
theorem ok_InvalidNumber_init (T : Tx K mg) : FnOk P w K mg base CX0 1 (He.ma K (He.ga K "InvalidNumber") "__init__") (fdOf K (He.ma K (He.ga K "InvalidNumber") "__init__")) ["self", "given"] (sp_exc K (He.ga K "InvalidNumber") "given") := by
  have sc := sc_InvalidNumber_init
  refine T.f_InvalidNumber_init.ok sc (fun vs H Q E h => ?_) (fun cdv A outer s H vs Q E hr h => ⟨t_exc K "given", PSs.nox ?_, pure_exc rfl h⟩)
  · obtain ⟨_, _, rfl, _⟩ := h
    rfl
  · exact (pss_one (ps_ost (pv 0) (pv 1)))
theorem ok_NotARing_init (T : Tx K mg) : FnOk P w K mg base CX0 1 (He.ma K (He.ga K "NotARing") "__init__") (fdOf K (He.ma K (He.ga K "NotARing") "__init__")) ["self", "given"] (sp_exc K (He.ga K "NotARing") "given") := by
  have sc := sc_NotARing_init
  refine T.f_NotARing_init.ok sc (fun vs H Q E h => ?_) (fun cdv A outer s H vs Q E hr h => ⟨t_exc K "given", PSs.nox ?_, pure_exc rfl h⟩)
  · obtain ⟨_, _, rfl, _⟩ := h
    rfl
  · exact (pss_one (ps_ost (pv 0) (pv 1)))
theorem sc_is_integer : FnScope ["value"] ["value"] (defScope st_is_integer) := ⟨rfl, rfl, rfl, by decide +kernel, rfl, by decide +kernel, by decide +kernel⟩
theorem ok_is_integer (T : Tx K mg) : FnOk P w K mg base CX0 1 (He.ga K "is_integer") (fdOf K (He.ga K "is_integer")) ["value"] (sp_is_integer K) := by
  have sc := sc_is_integer
  refine T.f_is_integer.ok sc (fun vs H Q E h => ?_) (fun cdv A outer s H vs Q E hr h => ⟨t_is_integer K, PSs.nox ?_, pure_is_integer h⟩)
  · obtain ⟨_, _, rfl, _⟩ := h
    rfl
  · exact (pss_one (ps_ret (pe_and (pe_callB call_isi (by rfl) T.n_isinstance (by decide +kernel) (pa_cons (pv 0) (pa_cons (pe_bltn (by rfl) T.n_int (by decide +kernel) rfl) pa_nil))) (pe_one (pe_not (pe_callB call_isi (by rfl) T.n_isinstance (by decide +kernel) (pa_cons (pv 0) (pa_cons (pe_bltn (by rfl) T.n_bool (by decide +kernel) rfl) pa_nil))))))))
theorem sc_is_within : FnScope ["value", "least", "most"] ["value", "least", "most"] (defScope st_is_within) := ⟨rfl, rfl, rfl, by decide +kernel, rfl, by decide +kernel, by decide +kernel⟩
theorem ok_is_within (T : Tx K mg) : FnOk P w K mg base CX0 2 (He.ga K "is_within") (fdOf K (He.ga K "is_within")) ["value", "least", "most"] (sp_is_within K) := by
  have sc := sc_is_within
  refine T.f_is_within.ok sc (fun vs H Q E h => ?_) (fun cdv A outer s H vs Q E hr h => ⟨t_is_within K, PSs.nox ?_, pure_is_within h⟩)
  · obtain ⟨_, _, _, rfl, _⟩ := h
    rfl
  · exact (pss_one (ps_ret (pe_and (pe_call (ok_is_integer T) (hr.mono (by decide)) (by rfl) T.g_is_integer T.k_is_integer T.b_is_integer .nil pass0 (pa_cons (pv 0) pa_nil)) (pe_one (pe_chain op_le op_le (pv 1) (pv 0) (pv 2))))))
theorem sc_is_word : FnScope ["value", "signs", "sign"] ["value", "signs"] (defScope st_is_word) := ⟨rfl, rfl, rfl, by decide +kernel, rfl, by decide +kernel, by decide +kernel⟩
theorem ok_is_word (T : Tx K mg) : FnOk P w K mg base CX0 1 (He.ga K "is_word") (fdOf K (He.ga K "is_word")) ["value", "signs"] (sp_is_word K) := by
  have sc := sc_is_word
  refine T.f_is_word.ok sc (fun vs H Q E h => ?_) (fun cdv A outer s H vs Q E hr h => ⟨t_is_word K, PSs.nox ?_, pure_is_word h⟩)
  · obtain ⟨_, _, rfl, _⟩ := h
    rfl
  · exact (pss_cons (ps_if (PW.pt (pw_or (pt_not (pt_val (pe_callB call_isi (by rfl) T.n_isinstance (by decide +kernel) (pa_cons (pv 0) (pa_cons (pe_bltn (by rfl) T.n_str (by decide +kernel) rfl) pa_nil))))) (pw_or1 (pt_not (pt_chain op_le op_le pe_int (pe_callB call_len (by rfl) T.n_len (by decide +kernel) (pa_cons (pv 0) pa_nil)) (pe_globI (by rfl) T.g_MOST_WORD)))))) (pss_one (ps_ret pe_bl)) pss_nil)
  (pss_one (ps_ret (pe_callB (cr_all rfl) (by rfl) T.n_all (by decide +kernel) (pa_cons (pe_lc (own := [("sign", 2)]) (g := gName 2) (by rfl) sc.nd (pi_str (pv 0)) (blkOk_by (own := [("sign", 2)]) (by kernel_rfl)) (fun _ _ _ _ _ => pg_name (i := 2) sc.nd rfl (by first | exact Or.inl rfl | exact Or.inr rfl)) (fun _ _ _ _ _ => pts_nil) (fun _ _ _ _ _ => (pe_cmpR op_in_sign (pv 2) (pv 1) (by rfl)))) pa_nil)))))
theorem sc_is_row : FnScope ["value", "length"] ["value", "length"] (defScope st_is_row) := ⟨rfl, rfl, rfl, by decide +kernel, rfl, by decide +kernel, by decide +kernel⟩
theorem ok_is_row (T : Tx K mg) : FnOk P w K mg base CX0 1 (He.ga K "is_row") (fdOf K (He.ga K "is_row")) ["value", "length"] (sp_is_row K) := by
  have sc := sc_is_row
  refine T.f_is_row.ok sc (fun vs H Q E h => ?_) (fun cdv A outer s H vs Q E hr h => ⟨t_is_row K, PSs.nox ?_, pure_is_row h⟩)
  · obtain ⟨_, _, rfl, _⟩ := h
    rfl
  · exact (pss_one (ps_ret (pe_and (pe_callB call_isi (by rfl) T.n_isinstance (by decide +kernel) (pa_cons (pv 0) (pa_cons (pe_bltn (by rfl) T.n_tuple (by decide +kernel) rfl) pa_nil))) (pe_one (pe_cmpR op_eq (pe_callB call_len (by rfl) T.n_len (by decide +kernel) (pa_cons (pv 0) pa_nil)) (pv 1) (nomark _))))))
theorem sc_least_turning : FnScope ["text", "place"] ["text"] (defScope st_least_turning) := ⟨rfl, rfl, rfl, by decide +kernel, rfl, by decide +kernel, by decide +kernel⟩
theorem ok_least_turning (T : Tx K mg) : FnOk P w K mg base CX0 1 (He.ga K "least_turning") (fdOf K (He.ga K "least_turning")) ["text"] (sp_least_turning K) := by
  have sc := sc_least_turning
  refine T.f_least_turning.ok sc (fun vs H Q E h => ?_) (fun cdv A outer s H vs Q E hr h => ⟨t_least_turning K, PSs.nox ?_, pure_least_turning h⟩)
  · obtain ⟨_, rfl, _⟩ := h
    rfl
  · exact (pss_one (ps_ret (pe_callB (cr_minS rfl hr.units) (by rfl) T.n_min (by decide +kernel) (pa_cons (pe_lc (own := [("place", 1)]) (g := gName 1) (by rfl) sc.nd (pi_range1 (by rfl) T.n_range (pa_cons (pe_callB call_len (by rfl) T.n_len (by decide +kernel) (pa_cons (pv 0) pa_nil)) pa_nil)) (blkOk_by (own := [("place", 1)]) (by kernel_rfl)) (fun _ _ _ _ _ => pg_name (i := 1) sc.nd rfl (by first | exact Or.inl rfl | exact Or.inr rfl)) (fun _ _ _ _ _ => pts_nil) (fun _ _ _ _ _ => (pe_op op_addS (pe_slice sl_str (pv 0) (po_some (pv 1)) po_none) (pe_slice sl_str (pv 0) po_none (po_some (pv 1)))))) pa_nil))))
theorem sc_Ring_init : FnScope ["self", "text"] ["self", "text"] (defScope st_Ring_init) := ⟨rfl, rfl, rfl, by decide +kernel, rfl, by decide +kernel, by decide +kernel⟩
theorem ok_Ring_init (T : Tx K mg) : FnOk P w K mg base CX0 2 (He.ma K (He.ga K "Ring") "__init__") (fdOf K (He.ma K (He.ga K "Ring") "__init__")) ["self", "text"] (sp_Ring_init K) := by
  have sc := sc_Ring_init
  obtain ⟨ds_is_word, dv_is_word, db_is_word⟩ := T.bd1_is_word
  refine T.f_Ring_init.ok sc (fun vs H Q E h => ?_) (fun cdv A outer s H vs Q E hr h => ⟨t_Ring_init K, PSs.nox ?_, pure_Ring_init T.ringK h⟩)
  · obtain ⟨_, _, _, rfl, _⟩ := h
    rfl
  · exact (pss_cons (ps_if (pt_not (pt_val (pe_call (ok_is_word T) (hr.mono (by decide)) (by rfl) T.g_is_word T.k_is_word db_is_word dv_is_word pass0 (pa_cons (pv 1) pa_nil)))) (pss_one ps_never) pss_nil)
  (pss_one (ps_fld (pv 0) (pe_call (ok_least_turning T) (hr.mono (by decide)) (by rfl) T.g_least_turning T.k_least_turning T.b_least_turning .nil pass0 (pa_cons (pv 1) pa_nil)) rfl)))
theorem okr_Ring_init (T : Tx K mg) : FnOk P w K mg base (L2N.CX P w) 3 (He.ma K (He.ga K "Ring") "__init__") (fdOf K (He.ma K (He.ga K "Ring") "__init__")) ["self", "text"] (spr_Ring_init K) := by
  have sc := sc_Ring_init
  obtain ⟨ds_is_word, dv_is_word, db_is_word⟩ := T.bd1_is_word
  refine T.f_Ring_init.ok sc (fun vs H Q E h => ?_) (fun cdv A outer s H vs Q E hr h => ⟨t_Ring_init_x K E, ?_, pure_Ring_init_x T.xk_InvalidWord h⟩)
  · obtain ⟨_, _, rfl, _⟩ := h
    rfl
  · exact (pss_cons (ps_if (pt_not (pt_val (pe_call (ok_is_word T) (hr.mono (by decide)) (by rfl) T.g_is_word T.k_is_word db_is_word dv_is_word pass0 (pa_cons (pv 1) pa_nil)))) (pss_one (ps_rs rfl T.xk_InvalidWord (ok_InvalidWord_init T) (hr.mono (by decide)) T.b_InvalidWord_init (L2N.takes_of rfl rfl rfl rfl) (by rfl) T.g_InvalidWord (pa_cons (pv 1) pa_nil))) pss_nil)
  pss_never)
theorem okx_Ring_init (T : Tx K mg) : FnOk P w K mg base (L2N.CX P w) 3 (He.ma K (He.ga K "Ring") "__init__") (fdOf K (He.ma K (He.ga K "Ring") "__init__")) ["self", "text"] (spx_Ring_init K) := FnOk_or (FnOk_lift ((ok_Ring_init T).mono (by decide))) (okr_Ring_init T) (by decide)
theorem sc_Ring_text : FnScope ["self"] ["self"] (defScope st_Ring_text) := ⟨rfl, rfl, rfl, by decide +kernel, rfl, by decide +kernel, by decide +kernel⟩
theorem ok_Ring_text (T : Tx K mg) : FnOk P w K mg base CX0 1 (He5.wf K (He.ga K "Ring") "property" "text") (fdOf K (He5.wf K (He.ga K "Ring") "property" "text")) ["self"] (sp_Ring_text K) := by
  have sc := sc_Ring_text
  refine T.f_Ring_text.ok sc (fun vs H Q E h => ?_) (fun cdv A outer s H vs Q E hr h => ⟨t_Ring_text K, PSs.nox ?_, pure_Ring_text T.ringK h⟩)
  · obtain ⟨_, _, rfl, _⟩ := h
    rfl
  · exact (pss_one (ps_ret (pe_fld (pv 0) rfl)))
theorem sc_Ring_stretch : FnScope ["self", "place", "number", "begin", "times"] ["self", "place", "number"] (defScope st_Ring_stretch) := ⟨rfl, rfl, rfl, by decide +kernel, rfl, by decide +kernel, by decide +kernel⟩
theorem ok_Ring_stretch (T : Tx K mg) : FnOk P w K mg base CX0 1 (He.ma K (He.ga K "Ring") "stretch") (fdOf K (He.ma K (He.ga K "Ring") "stretch")) ["self", "place", "number"] (sp_Ring_stretch K) := by
  have sc := sc_Ring_stretch
  refine T.f_Ring_stretch.ok sc (fun vs H Q E h => ?_) (fun cdv A outer s H vs Q E hr h => ⟨t_Ring_stretch K, PSs.nox ?_, pure_Ring_stretch T.ringK h⟩)
  · obtain ⟨_, _, _, rfl, _⟩ := h
    rfl
  · exact (pss_cons (ps_set (i := 3) sc.nd rfl (by first | exact Or.inl rfl | exact Or.inr rfl) (pe_op op_mod (pv 1) (pe_callB call_len (by rfl) T.n_len (by decide +kernel) (pa_cons (pe_fld (pv 0) rfl) pa_nil))))
  (pss_cons (ps_set (i := 4) sc.nd rfl (by first | exact Or.inl rfl | exact Or.inr rfl) (pe_op op_add (pe_op op_fdiv (pe_op op_add (pv 3) (pv 2)) (pe_callB call_len (by rfl) T.n_len (by decide +kernel) (pa_cons (pe_fld (pv 0) rfl) pa_nil))) pe_int))
  (pss_one (ps_ret (pe_slice sl_str (pe_op op_mulS (pe_fld (pv 0) rfl) (pv 4)) (po_some (pv 3)) (po_some (pe_op op_add (pv 3) (pv 2))))))))
theorem sc_Ring_turned : FnScope ["self", "i"] ["self", "i"] (defScope st_Ring_turned) := ⟨rfl, rfl, rfl, by decide +kernel, rfl, by decide +kernel, by decide +kernel⟩
theorem ok_Ring_turned (T : Tx K mg) : FnOk P w K mg base CX0 2 (He.ma K (He.ga K "Ring") "turned") (fdOf K (He.ma K (He.ga K "Ring") "turned")) ["self", "i"] (sp_Ring_turned K) := by
  have sc := sc_Ring_turned
  refine T.f_Ring_turned.ok sc (fun vs H Q E h => ?_) (fun cdv A outer s H vs Q E hr h => ⟨t_Ring_turned K, PSs.nox ?_, pure_Ring_turned T.ringK h⟩)
  · obtain ⟨_, _, rfl, _⟩ := h
    rfl
  · exact (pss_cons (ps_if (pt_not (pt_val (pe_call (ok_is_integer T) (hr.mono (by decide)) (by rfl) T.g_is_integer T.k_is_integer T.b_is_integer .nil pass0 (pa_cons (pv 1) pa_nil)))) (pss_one ps_never) pss_nil)
  (pss_one (ps_ret (pe_meth (pv 0) T.c_Ring T.m_Ring_stretch (ok_Ring_stretch T) (hr.mono (by decide)) T.b_Ring_stretch .nil pass0 (pa_cons (pv 1) (pa_cons (pe_callB call_len (by rfl) T.n_len (by decide +kernel) (pa_cons (pe_fld (pv 0) rfl) pa_nil)) pa_nil))))))
theorem okr_Ring_turned (T : Tx K mg) : FnOk P w K mg base (L2N.CX P w) 3 (He.ma K (He.ga K "Ring") "turned") (fdOf K (He.ma K (He.ga K "Ring") "turned")) ["self", "i"] (spr_Ring_turned K) := by
  have sc := sc_Ring_turned
  refine T.f_Ring_turned.ok sc (fun vs H Q E h => ?_) (fun cdv A outer s H vs Q E hr h => ⟨t_Ring_turned_x K E, ?_, pure_Ring_turned_x T.ringK T.xk_InvalidPlace h⟩)
  · obtain ⟨_, _, rfl, _⟩ := h
    rfl
  · exact (pss_cons (ps_if (pt_not (pt_val (pe_call (ok_is_integer T) (hr.mono (by decide)) (by rfl) T.g_is_integer T.k_is_integer T.b_is_integer .nil pass0 (pa_cons (pv 1) pa_nil)))) (pss_one (ps_rs rfl T.xk_InvalidPlace (ok_InvalidPlace_init T) (hr.mono (by decide)) T.b_InvalidPlace_init (L2N.takes_of rfl rfl rfl rfl) (by rfl) T.g_InvalidPlace (pa_cons (pv 1) pa_nil))) pss_nil)
  pss_never)
theorem okx_Ring_turned (T : Tx K mg) : FnOk P w K mg base (L2N.CX P w) 3 (He.ma K (He.ga K "Ring") "turned") (fdOf K (He.ma K (He.ga K "Ring") "turned")) ["self", "i"] (spx_Ring_turned K) := FnOk_or (FnOk_lift ((ok_Ring_turned T).mono (by decide))) (okr_Ring_turned T) (by decide)
theorem sc_Ring_len : FnScope ["self"] ["self"] (defScope st_Ring_len) := ⟨rfl, rfl, rfl, by decide +kernel, rfl, by decide +kernel, by decide +kernel⟩
theorem ok_Ring_len (T : Tx K mg) : FnOk P w K mg base CX0 1 (He.ma K (He.ga K "Ring") "__len__") (fdOf K (He.ma K (He.ga K "Ring") "__len__")) ["self"] (sp_Ring_len K) := by
  have sc := sc_Ring_len
  refine T.f_Ring_len.ok sc (fun vs H Q E h => ?_) (fun cdv A outer s H vs Q E hr h => ⟨t_Ring_len K, PSs.nox ?_, pure_Ring_len T.ringK h⟩)
  · obtain ⟨_, _, rfl, _⟩ := h
    rfl
  · exact (pss_one (ps_ret (pe_callB call_len (by rfl) T.n_len (by decide +kernel) (pa_cons (pe_fld (pv 0) rfl) pa_nil))))
theorem sc_Ring_eq : FnScope ["self", "other"] ["self", "other"] (defScope st_Ring_eq) := ⟨rfl, rfl, rfl, by decide +kernel, rfl, by decide +kernel, by decide +kernel⟩
theorem ok_Ring_eq (T : Tx K mg) : FnOk P w K mg base CX0 1 (He.ma K (He.ga K "Ring") "__eq__") (fdOf K (He.ma K (He.ga K "Ring") "__eq__")) ["self", "other"] (sp_Ring_eq K) := by
  have sc := sc_Ring_eq
  refine T.f_Ring_eq.ok sc (fun vs H Q E h => ?_) (fun cdv A outer s H vs Q E hr h => ⟨t_Ring_eq K, PSs.nox ?_, pure_Ring_eq T.ringK h⟩)
  · obtain ⟨_, _, rfl, _⟩ := h
    rfl
  · exact (pss_one (ps_ret (pe_and (pe_callB call_isi (by rfl) T.n_isinstance (by decide +kernel) (pa_cons (pv 1) (pa_cons (pe_glob (by rfl) T.g_Ring (show RelV (.ref (He.ga K "Ring")) (.ref (He.ga K "Ring")) from rfl)) pa_nil))) (pe_one (pe_cmpR op_eq (pe_fld (pv 0) rfl) (pe_fld (pv 1) rfl) (nomark _))))))
theorem sc_Ring_getitem : FnScope ["self", "at"] ["self", "at"] (defScope st_Ring_getitem) := ⟨rfl, rfl, rfl, by decide +kernel, rfl, by decide +kernel, by decide +kernel⟩
theorem ok_Ring_getitem (T : Tx K mg) : FnOk P w K mg base CX0 3 (He.ma K (He.ga K "Ring") "__getitem__") (fdOf K (He.ma K (He.ga K "Ring") "__getitem__")) ["self", "at"] (sp_Ring_getitem K) := by
  have sc := sc_Ring_getitem
  refine T.f_Ring_getitem.ok sc (fun vs H Q E h => ?_) (fun cdv A outer s H vs Q E hr h => ⟨t_Ring_getitem K, PSs.nox ?_, pure_Ring_getitem T.ringK h⟩)
  · obtain ⟨_, _, rfl, _⟩ := h
    rfl
  · exact (pss_cons (ps_if (pt_val (pe_call (ok_is_integer T) (hr.mono (by decide)) (by rfl) T.g_is_integer T.k_is_integer T.b_is_integer .nil pass0 (pa_cons (pv 1) pa_nil))) (pss_one (ps_ret (pe_meth (pv 0) T.c_Ring T.m_Ring_stretch (ok_Ring_stretch T) (hr.mono (by decide)) T.b_Ring_stretch .nil pass0 (pa_cons (pv 1) (pa_cons pe_int pa_nil))))) pss_nil)
  (pss_cons (ps_if (PW.pt (pw_or (pt_not (pt_val (pe_call (ok_is_row T) (hr.mono (by decide)) (by rfl) T.g_is_row T.k_is_row T.b_is_row .nil pass0 (pa_cons (pv 1) (pa_cons pe_int pa_nil))))) (pw_or (pt_not (pt_val (pe_call (ok_is_integer T) (hr.mono (by decide)) (by rfl) T.g_is_integer T.k_is_integer T.b_is_integer .nil pass0 (pa_cons (pe_ix ix_tup (pv 1) pe_int (fun _ _ => rfl)) pa_nil)))) (pw_or1 (pt_not (pt_val (pe_call (ok_is_within T) (hr.mono (by decide)) (by rfl) T.g_is_within T.k_is_within T.b_is_within .nil pass0 (pa_cons (pe_ix ix_tup (pv 1) pe_int (fun _ _ => rfl)) (pa_cons pe_int (pa_cons (pe_globI (by rfl) T.g_MOST_WORD) pa_nil)))))))))) (pss_one ps_never) pss_nil)
  (pss_one (ps_ret (pe_meth (pv 0) T.c_Ring T.m_Ring_stretch (ok_Ring_stretch T) (hr.mono (by decide)) T.b_Ring_stretch .nil pass0 (pa_cons (pe_ix ix_tup (pv 1) pe_int (fun _ _ => rfl)) (pa_cons (pe_ix ix_tup (pv 1) pe_int (fun _ _ => rfl)) pa_nil)))))))
theorem okr_Ring_getitem (T : Tx K mg) : FnOk P w K mg base (L2N.CX P w) 3 (He.ma K (He.ga K "Ring") "__getitem__") (fdOf K (He.ma K (He.ga K "Ring") "__getitem__")) ["self", "at"] (spr_Ring_getitem K) := by
  have sc := sc_Ring_getitem
  refine T.f_Ring_getitem.ok sc (fun vs H Q E h => ?_) (fun cdv A outer s H vs Q E hr h => ⟨t_Ring_getitem_x K E, ?_, pure_Ring_getitem_x T.ringK T.xk_InvalidPlace h⟩)
  · obtain ⟨_, _, rfl, _⟩ := h
    rfl
  · exact (pss_cons (ps_if (pt_val (pe_call (ok_is_integer T) (hr.mono (by decide)) (by rfl) T.g_is_integer T.k_is_integer T.b_is_integer .nil pass0 (pa_cons (pv 1) pa_nil))) (PSs.nox (pss_one (ps_ret (pe_meth (pv 0) T.c_Ring T.m_Ring_stretch (ok_Ring_stretch T) (hr.mono (by decide)) T.b_Ring_stretch .nil pass0 (pa_cons (pv 1) (pa_cons pe_int pa_nil)))))) pss_nil)
  (pss_cons (ps_if (PW.pt (pw_or (pt_not (pt_val (pe_call (ok_is_row T) (hr.mono (by decide)) (by rfl) T.g_is_row T.k_is_row T.b_is_row .nil pass0 (pa_cons (pv 1) (pa_cons pe_int pa_nil))))) (pw_or (pt_not (pt_val (pe_call (ok_is_integer T) (hr.mono (by decide)) (by rfl) T.g_is_integer T.k_is_integer T.b_is_integer .nil pass0 (pa_cons (pe_ix ix_tup (pv 1) pe_int (fun _ _ => rfl)) pa_nil)))) (pw_or1 (pt_not (pt_val (pe_call (ok_is_within T) (hr.mono (by decide)) (by rfl) T.g_is_within T.k_is_within T.b_is_within .nil pass0 (pa_cons (pe_ix ix_tup (pv 1) pe_int (fun _ _ => rfl)) (pa_cons pe_int (pa_cons (pe_globI (by rfl) T.g_MOST_WORD) pa_nil)))))))))) (pss_one (ps_rs rfl T.xk_InvalidPlace (ok_InvalidPlace_init T) (hr.mono (by decide)) T.b_InvalidPlace_init (L2N.takes_of rfl rfl rfl rfl) (by rfl) T.g_InvalidPlace (pa_cons (pv 1) pa_nil))) pss_nil)
  pss_never))
theorem okx_Ring_getitem (T : Tx K mg) : FnOk P w K mg base (L2N.CX P w) 3 (He.ma K (He.ga K "Ring") "__getitem__") (fdOf K (He.ma K (He.ga K "Ring") "__getitem__")) ["self", "at"] (spx_Ring_getitem K) := FnOk_or (FnOk_lift ((ok_Ring_getitem T).mono (by decide))) (okr_Ring_getitem T) (by decide)
theorem sc_Ring_mul : FnScope ["self", "times"] ["self", "times"] (defScope st_Ring_mul) := ⟨rfl, rfl, rfl, by decide +kernel, rfl, by decide +kernel, by decide +kernel⟩
theorem ok_Ring_mul (T : Tx K mg) : FnOk P w K mg base CX0 4 (He.ma K (He.ga K "Ring") "__mul__") (fdOf K (He.ma K (He.ga K "Ring") "__mul__")) ["self", "times"] (sp_Ring_mul K) := by
  have sc := sc_Ring_mul
  refine T.f_Ring_mul.ok sc (fun vs H Q E h => ?_) (fun cdv A outer s H vs Q E hr h => ⟨t_Ring_mul K, PSs.nox ?_, pure_Ring_mul T.ringK h⟩)
  · obtain ⟨_, _, _, rfl, _⟩ := h
    rfl
  · exact (pss_cons (ps_if (PW.pt (pw_or (pt_not (pt_val (pe_call (ok_is_integer T) (hr.mono (by decide)) (by rfl) T.g_is_integer T.k_is_integer T.b_is_integer .nil pass0 (pa_cons (pv 1) pa_nil)))) (pw_or1 (pt_cmpR op_lt (pv 1) pe_int (nomark _))))) (pss_one ps_never) pss_nil)
  (pss_cons (ps_if (pt_cmpR op_gt (pe_op op_mul (pe_callB call_len (by rfl) T.n_len (by decide +kernel) (pa_cons (pe_fld (pv 0) rfl) pa_nil)) (pv 1)) (pe_globI (by rfl) T.g_MOST_WORD) (nomark _)) (pss_one ps_never) pss_nil)
  (pss_one (ps_ret (pe_make T.mk_Ring (ok_Ring_init T) (hr.mono (by decide)) (by rfl) T.g_Ring T.b_Ring_init .nil pass0 (pa_cons (pe_op op_mulS (pe_fld (pv 0) rfl) (pv 1)) pa_nil))))))
theorem okr_Ring_mul (T : Tx K mg) : FnOk P w K mg base (L2N.CX P w) 5 (He.ma K (He.ga K "Ring") "__mul__") (fdOf K (He.ma K (He.ga K "Ring") "__mul__")) ["self", "times"] (spr_Ring_mul K) := by
  have sc := sc_Ring_mul
  refine T.f_Ring_mul.ok sc (fun vs H Q E h => ?_) (fun cdv A outer s H vs Q E hr h => ⟨t_Ring_mul_x K E, ?_, pure_Ring_mul_x T.ringK T.xk_InvalidWord T.xk_InvalidNumber h⟩)
  · obtain ⟨_, _, rfl, _⟩ := h
    rfl
  · exact (pss_cons (ps_if (PW.pt (pw_or (pt_not (pt_val (pe_call (ok_is_integer T) (hr.mono (by decide)) (by rfl) T.g_is_integer T.k_is_integer T.b_is_integer .nil pass0 (pa_cons (pv 1) pa_nil)))) (pw_or1 (pt_cmpR op_lt (pv 1) pe_int (nomark _))))) (pss_one (ps_rs rfl T.xk_InvalidNumber (ok_InvalidNumber_init T) (hr.mono (by decide)) T.b_InvalidNumber_init (L2N.takes_of rfl rfl rfl rfl) (by rfl) T.g_InvalidNumber (pa_cons (pv 1) pa_nil))) pss_nil)
  (pss_cons (ps_if (pt_cmpR op_gt (pe_op op_mul (pe_callB call_len (by rfl) T.n_len (by decide +kernel) (pa_cons (pe_fld (pv 0) rfl) pa_nil)) (pv 1)) (pe_globI (by rfl) T.g_MOST_WORD) (nomark _)) (pss_one (ps_rs rfl T.xk_InvalidWord (ok_InvalidWord_init T) (hr.mono (by decide)) T.b_InvalidWord_init (L2N.takes_of rfl rfl rfl rfl) (by rfl) T.g_InvalidWord (pa_cons (pv 1) pa_nil))) pss_nil)
  (pss_one (ps_ret (pe_make T.mk_Ring (okx_Ring_init T) (hr.mono (by decide)) (by rfl) T.g_Ring T.b_Ring_init .nil (L2N.passes_call (L2N.takes_of rfl rfl rfl rfl) (fun _ _ _ _ h => h)) (pa_cons (pe_op op_mulS (pe_fld (pv 0) rfl) (pv 1)) pa_nil))))))
theorem okx_Ring_mul (T : Tx K mg) : FnOk P w K mg base (L2N.CX P w) 5 (He.ma K (He.ga K "Ring") "__mul__") (fdOf K (He.ma K (He.ga K "Ring") "__mul__")) ["self", "times"] (spx_Ring_mul K) := FnOk_or (FnOk_lift ((ok_Ring_mul T).mono (by decide))) (okr_Ring_mul T) (by decide)
theorem sc_Ring_add : FnScope ["self", "other"] ["self", "other"] (defScope st_Ring_add) := ⟨rfl, rfl, rfl, by decide +kernel, rfl, by decide +kernel, by decide +kernel⟩
theorem ok_Ring_add (T : Tx K mg) : FnOk P w K mg base CX0 4 (He.ma K (He.ga K "Ring") "__add__") (fdOf K (He.ma K (He.ga K "Ring") "__add__")) ["self", "other"] (sp_Ring_add K) := by
  have sc := sc_Ring_add
  refine T.f_Ring_add.ok sc (fun vs H Q E h => ?_) (fun cdv A outer s H vs Q E hr h => ⟨t_Ring_add K, PSs.nox ?_, pure_Ring_add T.ringK h⟩)
  · obtain ⟨_, _, _, _, rfl, _⟩ := h
    rfl
  · exact (pss_cons (ps_if (pt_not (pt_val (pe_callB call_isi (by rfl) T.n_isinstance (by decide +kernel) (pa_cons (pv 1) (pa_cons (pe_glob (by rfl) T.g_Ring (show RelV (.ref (He.ga K "Ring")) (.ref (He.ga K "Ring")) from rfl)) pa_nil))))) (pss_one ps_never) pss_nil)
  (pss_cons (ps_if (pt_cmpR op_gt (pe_op op_add (pe_callB call_len (by rfl) T.n_len (by decide +kernel) (pa_cons (pe_fld (pv 0) rfl) pa_nil)) (pe_callB call_len (by rfl) T.n_len (by decide +kernel) (pa_cons (pe_fld (pv 1) rfl) pa_nil))) (pe_globI (by rfl) T.g_MOST_WORD) (nomark _)) (pss_one ps_never) pss_nil)
  (pss_one (ps_ret (pe_make T.mk_Ring (ok_Ring_init T) (hr.mono (by decide)) (by rfl) T.g_Ring T.b_Ring_init .nil pass0 (pa_cons (pe_op op_addS (pe_fld (pv 0) rfl) (pe_fld (pv 1) rfl)) pa_nil))))))
theorem okr_Ring_add (T : Tx K mg) : FnOk P w K mg base (L2N.CX P w) 5 (He.ma K (He.ga K "Ring") "__add__") (fdOf K (He.ma K (He.ga K "Ring") "__add__")) ["self", "other"] (spr_Ring_add K) := by
  have sc := sc_Ring_add
  refine T.f_Ring_add.ok sc (fun vs H Q E h => ?_) (fun cdv A outer s H vs Q E hr h => ⟨t_Ring_add_x K E, ?_, pure_Ring_add_x T.own05 T.xk_InvalidWord T.xk_NotARing h⟩)
  · obtain ⟨_, _, rfl, _⟩ := h
    rfl
  · exact (pss_cons (ps_if (pt_not (pt_val (pe_callB call_isi (by rfl) T.n_isinstance (by decide +kernel) (pa_cons (pv 1) (pa_cons (pe_glob (by rfl) T.g_Ring (show RelV (.ref (He.ga K "Ring")) (.ref (He.ga K "Ring")) from rfl)) pa_nil))))) (pss_one (ps_rs rfl T.xk_NotARing (ok_NotARing_init T) (hr.mono (by decide)) T.b_NotARing_init (L2N.takes_of rfl rfl rfl rfl) (by rfl) T.g_NotARing (pa_cons (pv 1) pa_nil))) pss_nil)
  (pss_cons (ps_if (pt_cmpR op_gt (pe_op op_add (pe_callB call_len (by rfl) T.n_len (by decide +kernel) (pa_cons (pe_fld (pv 0) rfl) pa_nil)) (pe_callB call_len (by rfl) T.n_len (by decide +kernel) (pa_cons (pe_fld (pv 1) rfl) pa_nil))) (pe_globI (by rfl) T.g_MOST_WORD) (nomark _)) (pss_one (ps_rs rfl T.xk_InvalidWord (ok_InvalidWord_init T) (hr.mono (by decide)) T.b_InvalidWord_init (L2N.takes_of rfl rfl rfl rfl) (by rfl) T.g_InvalidWord (pa_cons (pv 1) pa_nil))) pss_nil)
  (pss_one (ps_ret (pe_make T.mk_Ring (okx_Ring_init T) (hr.mono (by decide)) (by rfl) T.g_Ring T.b_Ring_init .nil (L2N.passes_call (L2N.takes_of rfl rfl rfl rfl) (fun _ _ _ _ h => h)) (pa_cons (pe_op op_addS (pe_fld (pv 0) rfl) (pe_fld (pv 1) rfl)) pa_nil))))))
theorem okx_Ring_add (T : Tx K mg) : FnOk P w K mg base (L2N.CX P w) 5 (He.ma K (He.ga K "Ring") "__add__") (fdOf K (He.ma K (He.ga K "Ring") "__add__")) ["self", "other"] (spx_Ring_add K) := FnOk_or (FnOk_lift ((ok_Ring_add T).mono (by decide))) (okr_Ring_add T) (by decide)
theorem sc_law_cell : FnScope ["_law_script", "_law_k", "_law_mixed", "_law_cell_here"] ["_law_script", "_law_k"] (defScope st_law_cell) := ⟨rfl, rfl, rfl, by decide +kernel, rfl, by decide +kernel, by decide +kernel⟩
theorem ok_law_cell (T : Tx K mg) : FnOk P w K mg base CX0 1 (He.ga K "_law_cell") (fdOf K (He.ga K "_law_cell")) ["_law_script", "_law_k"] (sp_law_cell K) := by
  have sc := sc_law_cell
  refine T.f_law_cell.ok sc (fun vs H Q E h => ?_) (fun cdv A outer s H vs Q E hr h => ⟨t_law_cell K, PSs.nox ?_, pure_law_cell h⟩)
  · obtain ⟨_, _, _, rfl, _⟩ := h
    rfl
  · exact (pss_cons (ps_if (pt_cmpR op_lt (pv 1) (pe_callB call_len (by rfl) T.n_len (by decide +kernel) (pa_cons (pv 0) pa_nil)) (nomark _)) (pss_one (ps_ret (pe_ix ix_list (pv 0) (pv 1) (fun _ _ => rfl)))) pss_nil)
  (pss_cons (ps_set (i := 2) sc.nd rfl (by first | exact Or.inl rfl | exact Or.inr rfl) (pe_op op_add pe_int (pe_op op_mul (pe_op op_mul pe_int (pv 1)) (pv 1))))
  (pss_cons (ps_for PassesOwn.never rfl (pi_list (pe_slice sl_list (pv 0) po_none (po_some pe_int))) (pg_name (i := 3) sc.nd rfl (by first | exact Or.inl rfl | exact Or.inr rfl)) (pss_one (ps_set (i := 2) sc.nd rfl (by first | exact Or.inl rfl | exact Or.inr rfl) (pe_op op_mod (pe_callTy call_int1 (by rfl) T.n_int (by decide +kernel) (pa_cons (pe_op op_add (pe_op op_mul (pv 2) pe_int) (pv 3)) pa_nil)) pe_int))))
  (pss_one (ps_ret (pv 2))))))
theorem sc_law_pool : FnScope ["_law_cell_here", "_law_digits"] ["_law_cell_here"] (defScope st_law_pool) := ⟨rfl, rfl, rfl, by decide +kernel, rfl, by decide +kernel, by decide +kernel⟩
theorem ok_law_pool (T : Tx K mg) : FnOk P w K mg base CX0 1 (He.ga K "_law_pool") (fdOf K (He.ga K "_law_pool")) ["_law_cell_here"] (sp_law_pool K) := by
  have sc := sc_law_pool
  refine T.f_law_pool.ok sc (fun vs H Q E h => ?_) (fun cdv A outer s H vs Q E hr h => ⟨t_law_pool K, PSs.nox ?_, pure_law_pool h⟩)
  · obtain ⟨_, rfl, _⟩ := h
    rfl
  · exact (pss_cons (ps_set (i := 1) sc.nd rfl (by first | exact Or.inl rfl | exact Or.inr rfl) (pe_ifExp (PW.pt (pw_or (pt_cmpR op_lt (pv 0) pe_int (nomark _)) (pw_or1 (pt_cmpR op_ge (pv 0) (pe_op op_pow pe_int pe_int) (nomark _))))) (pe_callB call_abs (by rfl) T.n_abs (by decide +kernel) (pa_cons (pv 0) pa_nil)) pe_int))
  (pss_one (ps_ret (pe_lst (pa_cons (pe_op op_mod (pe_callTy call_int1 (by rfl) T.n_int (by decide +kernel) (pa_cons (pv 0) pa_nil)) pe_int) (pa_cons (pv 1) (pa_cons pe_int pa_nil)))))))
theorem sc_law_draw : FnScope ["_law_pool_here", "_law_many", "_law_mixed", "_law_digit"] ["_law_pool_here", "_law_many"] (defScope st_law_draw) := ⟨rfl, rfl, rfl, by decide +kernel, rfl, by decide +kernel, by decide +kernel⟩
theorem ok_law_draw (T : Tx K mg) : FnOk P w K mg base CX0 1 (He.ga K "_law_draw") (fdOf K (He.ga K "_law_draw")) ["_law_pool_here", "_law_many"] (sp_law_draw K) := by
  have sc := sc_law_draw
  refine T.f_law_draw.ok sc (fun vs H Q E h => ?_) (fun cdv A outer s H vs Q E hr h => ⟨t_law_draw K, PSs.nox ?_, pure_law_draw h⟩)
  · obtain ⟨_, _, rfl, _⟩ := h
    rfl
  · exact (pss_cons (ps_asg (pe_op op_add (pe_ix ix_list (pv 0) pe_int (fun _ _ => rfl)) pe_int) (pg_sub (pv 0) pe_int set_list))
  (pss_cons (ps_set (i := 2) sc.nd rfl (by first | exact Or.inl rfl | exact Or.inr rfl) (pe_op op_mod (pe_callTy call_int1 (by rfl) T.n_int (by decide +kernel) (pa_cons (pe_op op_add (pe_op op_add (pe_op op_mul (pe_ix ix_list (pv 0) pe_int (fun _ _ => rfl)) pe_int) (pe_op op_mul (pe_ix ix_list (pv 0) pe_int (fun _ _ => rfl)) pe_int)) pe_int) pa_nil)) pe_int))
  (pss_cons (ps_asg (pe_op op_mod (pe_callTy call_int1 (by rfl) T.n_int (by decide +kernel) (pa_cons (pe_op op_mul (pv 2) (pe_op op_add (pe_op op_fdiv (pv 2) pe_int) pe_int)) pa_nil)) pe_int) (pg_sub (pv 0) pe_int set_list))
  (pss_cons (ps_if (pt_cmpR op_gt (pe_ix ix_list (pv 0) pe_int (fun _ _ => rfl)) pe_int (nomark _)) (pss_cons (ps_asg (pe_callB call_divmodW (by rfl) T.n_divmod (by decide +kernel) (pa_cons (pe_ix ix_list (pv 0) pe_int (fun _ _ => rfl)) (pa_cons (pv 1) pa_nil))) (pg_tup rfl (pgs_cons (pg_sub (pv 0) pe_int set_list) (pgs_cons (pg_name (i := 3) sc.nd rfl (by first | exact Or.inl rfl | exact Or.inr rfl)) pgs_nil))))
  (pss_one (ps_ret (pv 3)))) pss_nil)
  (pss_one (ps_ret (pe_op op_mod (pe_callTy call_int1 (by rfl) T.n_int (by decide +kernel) (pa_cons (pe_op op_fdiv (pe_ix ix_list (pv 0) pe_int (fun _ _ => rfl)) pe_int) pa_nil)) (pv 1))))))))
theorem sc_law_faceR : FnScope ["_law_thing", "_law_part", "_law_key"] ["_law_thing"] (defScope st_law_faceR) := ⟨rfl, rfl, rfl, by decide +kernel, rfl, by decide +kernel, by decide +kernel⟩
theorem ok_law_faceR (T : Tx K mg) : ∀ n : Nat, FnOk P w K mg base CX0 (n + 1) (He.ga K "_law_face") (fdOf K (He.ga K "_law_face")) ["_law_thing"] (sp_law_faceR K n)
  | 0 => T.f_law_faceR.ok sc_law_faceR (fun vs H Q E h => False.elim h) (fun cdv A outer s H vs Q E hr h => False.elim h)
  | n + 1 => by
    have sc := sc_law_faceR
    have ih := ok_law_faceR T n
    refine T.f_law_faceR.ok sc (fun vs H Q E h => ?_) (fun cdv A outer s H vs Q E hr h => ⟨t_law_faceR K n, PSs.nox ?_, pure_law_faceR T.own05 h⟩)
    · obtain ⟨_, rfl, _⟩ := h
      rfl
    · exact (pss_cons (ps_if (pt_val (pe_callB call_isi (by rfl) T.n_isinstance (by decide +kernel) (pa_cons (pv 0) (pa_cons (pe_bltn (by rfl) T.n_tuple (by decide +kernel) rfl) pa_nil)))) (pss_one (ps_ret (pe_op op_cat (pe_lst (pa_cons pe_str pa_nil)) (pe_lc (own := [("_law_part", 1)]) (g := gName 1) (by rfl) sc.nd (pi_tup (pv 0)) (blkOk_by (own := [("_law_part", 1)]) (by kernel_rfl)) (fun _ _ _ _ _ => pg_name (i := 1) sc.nd rfl (by first | exact Or.inl rfl | exact Or.inr rfl)) (fun _ _ _ _ _ => pts_nil) (fun _ _ _ _ _ => (pe_call ih (hr.mono (by omega)) (by rfl) T.g_law_faceR T.k_law_faceR T.b_law_faceR .nil pass0 (pa_cons (pv 1) pa_nil))))))) pss_nil)
  (pss_cons (ps_if (pt_val (pe_callB call_isi (by rfl) T.n_isinstance (by decide +kernel) (pa_cons (pv 0) (pa_cons (pe_bltn (by rfl) T.n_list (by decide +kernel) rfl) pa_nil)))) (pss_one (ps_ret (pe_op op_cat (pe_lst (pa_cons pe_str pa_nil)) (pe_lc (own := [("_law_part", 1)]) (g := gName 1) (by rfl) sc.nd (pi_list (pv 0)) (blkOk_by (own := [("_law_part", 1)]) (by kernel_rfl)) (fun _ _ _ _ _ => pg_name (i := 1) sc.nd rfl (by first | exact Or.inl rfl | exact Or.inr rfl)) (fun _ _ _ _ _ => pts_nil) (fun _ _ _ _ _ => (pe_call ih (hr.mono (by omega)) (by rfl) T.g_law_faceR T.k_law_faceR T.b_law_faceR .nil pass0 (pa_cons (pv 1) pa_nil))))))) pss_nil)
  (pss_cons (ps_if (pt_val (pe_callB call_isi (by rfl) T.n_isinstance (by decide +kernel) (pa_cons (pv 0) (pa_cons (pe_bltn (by rfl) T.n_dict (by decide +kernel) rfl) pa_nil)))) (pss_one (ps_ret (pe_op op_cat (pe_lst (pa_cons pe_str pa_nil)) (pe_lock (pe_lc (own := [("_law_key", 2)]) (g := gName 2) (by rfl) sc.nd (pi_keys (pv 0)) (blkOk_by (own := [("_law_key", 2)]) (by kernel_rfl)) (fun _ _ _ _ _ => pg_name (i := 2) sc.nd rfl (by first | exact Or.inl rfl | exact Or.inr rfl)) (fun _ _ _ _ _ => pts_nil) (fun _ _ _ _ _ => (pe_lst (pa_cons (pe_call ih (hr.mono (by omega)) (by rfl) T.g_law_faceR T.k_law_faceR T.b_law_faceR .nil pass0 (pa_cons (pv 2) pa_nil)) (pa_cons (pe_call ih (hr.mono (by omega)) (by rfl) T.g_law_faceR T.k_law_faceR T.b_law_faceR .nil pass0 (pa_cons (pe_dget hr.u1 (pv 0) (pv 2) (fun _ _ => rfl)) pa_nil)) pa_nil))))))))) pss_nil)
  (pss_one (ps_ret (pe_lst (pa_cons (pe_ifExp (pt_val (pe_callB call_isi (by rfl) T.n_isinstance (by decide +kernel) (pa_cons (pv 0) (pa_cons (pe_bltn (by rfl) T.n_bool (by decide +kernel) rfl) pa_nil)))) pe_str pe_str) (pa_cons (pv 0) pa_nil))))))))
theorem sc_law_wholeK : FnScope ["_law_thing"] ["_law_thing"] (defScope st_law_wholeK) := ⟨rfl, rfl, rfl, by decide +kernel, rfl, by decide +kernel, by decide +kernel⟩
theorem ok_law_wholeK (T : Tx K mg) : FnOk P w K mg base CX0 1 (He.ga K "_law_whole") (fdOf K (He.ga K "_law_whole")) ["_law_thing"] (sp_law_wholeK K) := by
  have sc := sc_law_wholeK
  refine T.f_law_wholeK.ok sc (fun vs H Q E h => ?_) (fun cdv A outer s H vs Q E hr h => ⟨t_law_wholeK K, PSs.nox ?_, pure_law_wholeK h⟩)
  · obtain ⟨_, _, rfl, _⟩ := h
    rfl
  · exact (pss_one (ps_ret (pe_and (pe_callB call_isi (by rfl) T.n_isinstance (by decide +kernel) (pa_cons (pv 0) (pa_cons (pe_bltn (by rfl) T.n_int (by decide +kernel) rfl) pa_nil))) (pe_one (pe_not (pe_callB call_isi (by rfl) T.n_isinstance (by decide +kernel) (pa_cons (pv 0) (pa_cons (pe_bltn (by rfl) T.n_bool (by decide +kernel) rfl) pa_nil))))))))
theorem sc_law_odd : FnScope ["_law_pool_here", "_law_way"] ["_law_pool_here"] (defScope st_law_odd) := ⟨rfl, rfl, rfl, by decide +kernel, rfl, by decide +kernel, by decide +kernel⟩
theorem ok_law_odd (T : Tx K mg) : FnOk P w K mg base CX0 2 (He.ga K "_law_odd") (fdOf K (He.ga K "_law_odd")) ["_law_pool_here"] (sp_law_odd K) := by
  have sc := sc_law_odd
  refine T.f_law_odd.ok sc (fun vs H Q E h => ?_) (fun cdv A outer s H vs Q E hr h => ⟨t_law_odd K, PSs.nox ?_, pure_law_odd h⟩)
  · obtain ⟨_, rfl, _⟩ := h
    rfl
  · exact (pss_cons (ps_set (i := 1) sc.nd rfl (by first | exact Or.inl rfl | exact Or.inr rfl) (pe_call (ok_law_draw T) (hr.mono (by decide)) (by rfl) T.g_law_draw T.k_law_draw T.b_law_draw .nil pass0 (pa_cons (pv 0) (pa_cons pe_int pa_nil))))
  (pss_cons (ps_if (pt_cmpR op_lt (pv 1) pe_int (nomark _)) (pss_one (ps_ret (pe_ix ix_list (pe_lst (pa_cons pe_non (pa_cons pe_bl (pa_cons pe_bl (pa_cons pe_int (pa_cons pe_int (pa_cons (pe_un un_neg pe_int) (pa_cons pe_int (pa_cons pe_int (pa_cons pe_int (pa_cons (pe_op op_pow pe_int pe_int) (pa_cons (pe_un un_neg (pe_op op_pow pe_int pe_int)) pa_nil)))))))))))) (pv 1) (fun _ _ => rfl)))) pss_nil)
  (pss_cons (ps_if (pt_cmpR op_lt (pv 1) pe_int (nomark _)) (pss_one (ps_ret (pe_ix ix_list (pe_lst (pa_cons pe_str (pa_cons pe_str (pa_cons pe_str (pa_cons pe_str (pa_cons pe_str (pa_cons pe_str (pa_cons pe_str (pa_cons pe_str pa_nil))))))))) (pe_op op_sub (pv 1) pe_int) (fun _ _ => rfl)))) pss_nil)
  (pss_cons (ps_if (pt_cmpR op_lt (pv 1) pe_int (nomark _)) (pss_one (ps_ret (pe_ix ix_list (pe_lst (pa_cons (pe_lst pa_nil) (pa_cons (pe_lst (pa_cons pe_str pa_nil)) (pa_cons pe_dnewK (pa_cons (pe_disp (pps_cons pe_str pe_int pps_nil) rfl rfl (by simp) (by decide)) pa_nil))))) (pe_op op_sub (pv 1) pe_int) (fun _ _ => rfl)))) pss_nil)
  (pss_one (ps_ret (pe_ix ix_list (pe_lst (pa_cons (pe_tup pa_nil) (pa_cons (pe_tup (pa_cons pe_str pa_nil)) (pa_cons (pe_tup (pa_cons pe_int (pa_cons pe_int pa_nil))) (pa_cons (pe_tup (pa_cons (pe_lst pa_nil) (pa_cons (pe_disp (pps_cons pe_str (pe_tup (pa_cons pe_int (pa_cons (pe_lst pa_nil) pa_nil))) pps_nil) rfl rfl (by simp) (by decide)) pa_nil))) pa_nil))))) (pe_op op_sub (pv 1) pe_int) (fun _ _ => rfl))))))))
theorem sc_law_signs : FnScope ["_law_pool_here", "_law_most", "_law_found", "_law_turn", "_law_rest", "_law_mark"] ["_law_pool_here", "_law_most"] (defScope st_law_signs) := ⟨rfl, rfl, rfl, by decide +kernel, rfl, by decide +kernel, by decide +kernel⟩
theorem ok_law_signs (T : Tx K mg) : FnOk P w K mg base CX0 2 (He.ga K "_law_signs") (fdOf K (He.ga K "_law_signs")) ["_law_pool_here", "_law_most"] (sp_law_signs K) := by
  have sc := sc_law_signs
  refine T.f_law_signs.ok sc (fun vs H Q E h => ?_) (fun cdv A outer s H vs Q E hr h => ⟨t_law_signs K, PSs.nox ?_, pure_law_signs h⟩)
  · obtain ⟨_, _, rfl, _⟩ := h
    rfl
  · exact (pss_cons (ps_set (i := 2) sc.nd rfl (by first | exact Or.inl rfl | exact Or.inr rfl) pe_str)
  (pss_cons (ps_for PassesOwn.never rfl (pi_range1 (by rfl) T.n_range (pa_cons (pe_op op_add pe_int (pe_call (ok_law_draw T) (hr.mono (by decide)) (by rfl) T.g_law_draw T.k_law_draw T.b_law_draw .nil pass0 (pa_cons (pv 0) (pa_cons (pv 1) pa_nil)))) pa_nil)) (pg_name (i := 3) sc.nd rfl (by first | exact Or.inl rfl | exact Or.inr rfl)) (pss_cons (ps_setLc (i := 4) (own := [("_law_mark", 5)]) (g := gName 5) (by rfl) sc.nd rfl rfl (sw_true rfl rfl rfl (by decide +kernel)) (pi_str pe_str) (blkOk_by (own := [("_law_mark", 5)]) (by kernel_rfl)) (fun _ _ _ _ _ => pg_name (i := 5) sc.nd rfl (by first | exact Or.inl rfl | exact Or.inr rfl)) (fun _ _ _ _ _ => (pts_one (pt_cmpR op_notIn_sign (pv 5) (pv 2) (by rfl)))) (fun _ _ _ _ _ => (pv 5)))
  (pss_one (ps_set (i := 2) sc.nd rfl (by first | exact Or.inl rfl | exact Or.inr rfl) (pe_op op_addS (pv 2) (pe_ix ix_list (pv 4) (pe_call (ok_law_draw T) (hr.mono (by decide)) (by rfl) T.g_law_draw T.k_law_draw T.b_law_draw .nil pass0 (pa_cons (pv 0) (pa_cons (pe_callB call_len (by rfl) T.n_len (by decide +kernel) (pa_cons (pv 4) pa_nil)) pa_nil))) (fun _ _ => rfl)))))))
  (pss_one (ps_ret (pv 2)))))
theorem sc_law_word : FnScope ["_law_pool_here", "_law_abc", "_law_most", "_law_turn"] ["_law_pool_here", "_law_abc", "_law_most"] (defScope st_law_word) := ⟨rfl, rfl, rfl, by decide +kernel, rfl, by decide +kernel, by decide +kernel⟩
theorem ok_law_word (T : Tx K mg) : FnOk P w K mg base CX0 2 (He.ga K "_law_word") (fdOf K (He.ga K "_law_word")) ["_law_pool_here", "_law_abc", "_law_most"] (sp_law_word K) := by
  have sc := sc_law_word
  refine T.f_law_word.ok sc (fun vs H Q E h => ?_) (fun cdv A outer s H vs Q E hr h => ⟨t_law_word K, PSs.nox ?_, pure_law_word h⟩)
  · obtain ⟨_, _, _, rfl, _⟩ := h
    rfl
  · exact (pss_one (ps_ret (pe_join pe_str (pe_lc (own := [("_law_turn", 3)]) (g := gName 3) (by rfl) sc.nd (pi_range1 (by rfl) T.n_range (pa_cons (pe_op op_add pe_int (pe_call (ok_law_draw T) (hr.mono (by decide)) (by rfl) T.g_law_draw T.k_law_draw T.b_law_draw .nil pass0 (pa_cons (pv 0) (pa_cons (pv 2) pa_nil)))) pa_nil)) (blkOk_by (own := [("_law_turn", 3)]) (by kernel_rfl)) (fun _ _ _ _ _ => pg_name (i := 3) sc.nd rfl (by first | exact Or.inl rfl | exact Or.inr rfl)) (fun _ _ _ _ _ => pts_nil) (fun _ _ _ _ _ => (pe_ix ix_str (pv 1) (pe_call (ok_law_draw T) (hr.mono (by decide)) (by rfl) T.g_law_draw T.k_law_draw T.b_law_draw .nil pass0 (pa_cons (pv 0) (pa_cons (pe_callB call_len (by rfl) T.n_len (by decide +kernel) (pa_cons (pv 1) pa_nil)) pa_nil))) (fun _ _ => rfl)))))))
theorem sc_law_long : FnScope ["_law_pool_here", "_law_most", "_law_abc", "_law_way", "_law_piece"] ["_law_pool_here", "_law_most"] (defScope st_law_long) := ⟨rfl, rfl, rfl, by decide +kernel, rfl, by decide +kernel, by decide +kernel⟩
theorem ok_law_long (T : Tx K mg) : FnOk P w K mg base CX0 3 (He.ga K "_law_long") (fdOf K (He.ga K "_law_long")) ["_law_pool_here", "_law_most"] (sp_law_long K) := by
  have sc := sc_law_long
  refine T.f_law_long.ok sc (fun vs H Q E h => ?_) (fun cdv A outer s H vs Q E hr h => ⟨t_law_long K, PSs.nox ?_, pure_law_long h⟩)
  · obtain ⟨_, _, rfl, _⟩ := h
    rfl
  · exact (pss_cons (ps_set (i := 2) sc.nd rfl (by first | exact Or.inl rfl | exact Or.inr rfl) (pe_ifExp (pt_cmpR op_eq (pe_call (ok_law_draw T) (hr.mono (by decide)) (by rfl) T.g_law_draw T.k_law_draw T.b_law_draw .nil pass0 (pa_cons (pv 0) (pa_cons pe_int pa_nil))) pe_int (nomark _)) pe_str (pe_call (ok_law_signs T) (hr.mono (by decide)) (by rfl) T.g_law_signs T.k_law_signs T.b_law_signs .nil pass0 (pa_cons (pv 0) (pa_cons pe_int pa_nil)))))
  (pss_cons (ps_set (i := 3) sc.nd rfl (by first | exact Or.inl rfl | exact Or.inr rfl) (pe_call (ok_law_draw T) (hr.mono (by decide)) (by rfl) T.g_law_draw T.k_law_draw T.b_law_draw .nil pass0 (pa_cons (pv 0) (pa_cons pe_int pa_nil))))
  (pss_cons (ps_if (pt_cmpR op_lt (pv 3) pe_int (nomark _)) (pss_one (ps_ret (pe_call (ok_law_word T) (hr.mono (by decide)) (by rfl) T.g_law_word T.k_law_word T.b_law_word .nil pass0 (pa_cons (pv 0) (pa_cons (pv 2) (pa_cons pe_int pa_nil)))))) pss_nil)
  (pss_cons (ps_if (pt_cmpR op_lt (pv 3) pe_int (nomark _)) (pss_one (ps_ret (pe_call (ok_law_word T) (hr.mono (by decide)) (by rfl) T.g_law_word T.k_law_word T.b_law_word .nil pass0 (pa_cons (pv 0) (pa_cons (pv 2) (pa_cons (pv 1) pa_nil)))))) pss_nil)
  (pss_cons (ps_set (i := 4) sc.nd rfl (by first | exact Or.inl rfl | exact Or.inr rfl) (pe_call (ok_law_word T) (hr.mono (by decide)) (by rfl) T.g_law_word T.k_law_word T.b_law_word .nil pass0 (pa_cons (pv 0) (pa_cons (pv 2) (pa_cons pe_int pa_nil)))))
  (pss_one (ps_ret (pe_ifExp (pt_cmpR op_eq (pv 3) pe_int (nomark _)) (pe_op op_mulS (pv 4) (pe_op op_add pe_int (pe_call (ok_law_draw T) (hr.mono (by decide)) (by rfl) T.g_law_draw T.k_law_draw T.b_law_draw .nil pass0 (pa_cons (pv 0) (pa_cons pe_int pa_nil))))) (pe_op op_mulS (pv 4) (pe_op op_fdiv pe_int (pe_callB call_len (by rfl) T.n_len (by decide +kernel) (pa_cons (pv 4) pa_nil))))))))))))
theorem sc_law_is_word : FnScope ["_law_thing", "_law_abc", "_law_mark"] ["_law_thing", "_law_abc"] (defScope st_law_is_word) := ⟨rfl, rfl, rfl, by decide +kernel, rfl, by decide +kernel, by decide +kernel⟩
theorem ok_law_is_word (T : Tx K mg) : FnOk P w K mg base CX0 1 (He.ga K "_law_is_word") (fdOf K (He.ga K "_law_is_word")) ["_law_thing", "_law_abc"] (sp_law_is_word K) := by
  have sc := sc_law_is_word
  refine T.f_law_is_word.ok sc (fun vs H Q E h => ?_) (fun cdv A outer s H vs Q E hr h => ⟨t_law_is_word K, PSs.nox ?_, pure_law_is_word h⟩)
  · obtain ⟨_, _, rfl, _⟩ := h
    rfl
  · exact (pss_cons (ps_if (PW.pt (pw_or (pt_not (pt_val (pe_callB call_isi (by rfl) T.n_isinstance (by decide +kernel) (pa_cons (pv 0) (pa_cons (pe_bltn (by rfl) T.n_str (by decide +kernel) rfl) pa_nil))))) (pw_or (pt_cmpR op_eq (pv 0) pe_str (nomark _)) (pw_or1 (pt_cmpR op_gt (pe_callB call_len (by rfl) T.n_len (by decide +kernel) (pa_cons (pv 0) pa_nil)) pe_int (nomark _)))))) (pss_one (ps_ret pe_bl)) pss_nil)
  (pss_one (ps_ret (pe_cmpR (op_eqD hr.units) (pe_lc (own := [("_law_mark", 2)]) (g := gName 2) (by rfl) sc.nd (pi_str (pv 0)) (blkOk_by (own := [("_law_mark", 2)]) (by kernel_rfl)) (fun _ _ _ _ _ => pg_name (i := 2) sc.nd rfl (by first | exact Or.inl rfl | exact Or.inr rfl)) (fun _ _ _ _ _ => (pts_one (pt_cmpR op_notIn_sign (pv 2) (pv 1) (by rfl)))) (fun _ _ _ _ _ => (pv 2))) (pe_lst pa_nil) (nomark _)))))
theorem sc_law_heard05 : FnScope ["_law_act", "_law_kept", "e", "_law_word_here"] ["_law_act"] (defScope st_law_heard05) := ⟨rfl, rfl, rfl, by decide +kernel, rfl, by decide +kernel, by decide +kernel⟩
theorem gives_law_heard05 {X : Cx} (T : Tx X.K X.mg) {k : Nat} (hk : 7 ≤ k + 1) (cdv : Value) : GivesN X k ["_law_act", "_law_kept", "e", "_law_word_here"] "_law_heard" (defScope st_law_heard05) (He.ga X.K "_law_heard") cdv (defBody st_law_heard05) "_law_act" (TT_law_heard05 X.K) := by
  intro q f c' s H Q tl hr0 act hc h
  have hr := hr0.mono hk
  have sc := sc_law_heard05
  have act : ∀ (W : WX) (pn : List (Addr × Obj)) (xe : Value → Shared → Prop) (p1 p2 : Pos), L2N.Takes ((cxOf CX0 X.prog X.w X.K X.mg X.base ["_law_act", "_law_kept", "e", "_law_word_here"] "_law_heard" (defScope st_law_heard05) (He.ga X.K "_law_heard") cdv X.A X.stack s H E0).nox.tr pn xe) W → PE ((cxOf CX0 X.prog X.w X.K X.mg X.base ["_law_act", "_law_kept", "e", "_law_word_here"] "_law_heard" (defScope st_law_heard05) (He.ga X.K "_law_heard") cdv X.A X.stack s H E0).nox.tr pn xe) (.Call (.Name "_law_act" p1) [] [] p2) (tAct f c' q tl W) := act
  refine ⟨t_law_heard05 X.K f c' q tl, ?_, pure_law_heard05 T.exm hc h⟩
  exact (pss_cons (ps_set (i := 1) sc.nd rfl (by first | exact Or.inl rfl | exact Or.inr rfl) pe_non)
  (pss_cons (ps_tryL rfl rfl sc.nd (fun W pn xe tk _ => (pss_cons (ps_expr (act W pn xe _ _ tk))
  (pss_one (ps_set (i := 3) sc.nd rfl (by first | exact Or.inl rfl | exact Or.inr rfl) pe_str)))) (ClsOk.more (by rfl) (by rfl) ⟨(by rfl), by decide, .inl T.g_InvalidWord⟩ (fun a oe cls d pn hz hf => (pss_one (ps_parH (fun _ _ _ _ I => ⟨_, hot_suite hz hf I⟩) sc.nd rfl rfl (by decide) rfl rfl (pa_cons pe_str (pa_cons (pe_xf T.xk_InvalidWord.xf T.xk_InvalidWord.no hz.zc hf (pv 2)) pa_nil)) (by rfl)))) (ClsOk.more (by rfl) (by rfl) ⟨(by rfl), by decide, .inl T.g_InvalidPlace⟩ (fun a oe cls d pn hz hf => (pss_one (ps_parH (fun _ _ _ _ I => ⟨_, hot_suite hz hf I⟩) sc.nd rfl rfl (by decide) rfl rfl (pa_cons pe_str (pa_cons (pe_xf T.xk_InvalidPlace.xf T.xk_InvalidPlace.no hz.zc hf (pv 2)) pa_nil)) (by rfl)))) (ClsOk.more (by rfl) (by rfl) ⟨(by rfl), by decide, .inl T.g_InvalidNumber⟩ (fun a oe cls d pn hz hf => (pss_one (ps_parH (fun _ _ _ _ I => ⟨_, hot_suite hz hf I⟩) sc.nd rfl rfl (by decide) rfl rfl (pa_cons pe_str (pa_cons (pe_xf T.xk_InvalidNumber.xf T.xk_InvalidNumber.no hz.zc hf (pv 2)) pa_nil)) (by rfl)))) (ClsOk.more (by rfl) (by rfl) ⟨(by rfl), by decide, .inl T.g_NotARing⟩ (fun a oe cls d pn hz hf => (pss_one (ps_parH (fun _ _ _ _ I => ⟨_, hot_suite hz hf I⟩) sc.nd rfl rfl (by decide) rfl rfl (pa_cons pe_str (pa_cons (pe_xf T.xk_NotARing.xf T.xk_NotARing.no hz.zc hf (pv 2)) pa_nil)) (by rfl)))) ClsOk.none)))))
  (pss_one (ps_ret (pe_lst (pa_cons (pv 3) (pa_cons (pe_call (ok_law_faceR T 6) (hr.mono (by decide)) (by rfl) T.g_law_faceR T.k_law_faceR T.b_law_faceR .nil pass0 (pa_cons (pv 1) pa_nil)) pa_nil)))))))
theorem sc_law_due05 : FnScope ["_law_word_here", "_law_thing"] ["_law_word_here", "_law_thing"] (defScope st_law_due05) := ⟨rfl, rfl, rfl, by decide +kernel, rfl, by decide +kernel, by decide +kernel⟩
theorem ok_law_due05 (T : Tx K mg) : FnOk P w K mg base CX0 8 (He.ga K "_law_due") (fdOf K (He.ga K "_law_due")) ["_law_word_here", "_law_thing"] (sp_law_due05 K) := by
  have sc := sc_law_due05
  refine T.f_law_due05.ok sc (fun vs H Q E h => ?_) (fun cdv A outer s H vs Q E hr h => ⟨t_law_due05 K, PSs.nox ?_, pure_law_due05 h⟩)
  · obtain ⟨_, _, rfl, _⟩ := h
    rfl
  · exact (pss_one (ps_ret (pe_lst (pa_cons (pv 0) (pa_cons (pe_call (ok_law_faceR T 6) (hr.mono (by decide)) (by rfl) T.g_law_faceR T.k_law_faceR T.b_law_faceR .nil pass0 (pa_cons (pe_ifExp (pt_cmpR op_eq (pv 0) pe_str (nomark _)) pe_non (pv 1)) pa_nil)) pa_nil)))))
theorem sc_law_spoilt05 : FnScope ["_law_pool_here", "_law_word_here", "_law_at", "_law_mark"] ["_law_pool_here", "_law_word_here"] (defScope st_law_spoilt05) := ⟨rfl, rfl, rfl, by decide +kernel, rfl, by decide +kernel, by decide +kernel⟩
theorem ok_law_spoilt05 (T : Tx K mg) : FnOk P w K mg base CX0 2 (He.ga K "_law_spoilt") (fdOf K (He.ga K "_law_spoilt")) ["_law_pool_here", "_law_word_here"] (sp_law_spoilt05 K) := by
  have sc := sc_law_spoilt05
  refine T.f_law_spoilt05.ok sc (fun vs H Q E h => ?_) (fun cdv A outer s H vs Q E hr h => ⟨t_law_spoilt05 K, PSs.nox ?_, pure_law_spoilt05 h⟩)
  · obtain ⟨_, _, rfl, _⟩ := h
    rfl
  · exact (pss_cons (ps_par (by rfl) sc.nd rfl rfl (by decide) rfl rfl (pa_cons (pe_call (ok_law_draw T) (hr.mono (by decide)) (by rfl) T.g_law_draw T.k_law_draw T.b_law_draw .nil pass0 (pa_cons (pv 0) (pa_cons (pe_op op_add (pe_callB call_len (by rfl) T.n_len (by decide +kernel) (pa_cons (pv 1) pa_nil)) pe_int) pa_nil))) (pa_cons (pe_ix ix_str pe_str (pe_call (ok_law_draw T) (hr.mono (by decide)) (by rfl) T.g_law_draw T.k_law_draw T.b_law_draw .nil pass0 (pa_cons (pv 0) (pa_cons pe_int pa_nil))) (fun _ _ => rfl)) pa_nil)) (by rfl))
  (pss_cons (ps_if (pt_cmpR op_gt (pe_call (ok_law_draw T) (hr.mono (by decide)) (by rfl) T.g_law_draw T.k_law_draw T.b_law_draw .nil pass0 (pa_cons (pv 0) (pa_cons pe_int pa_nil))) pe_int (nomark _)) (pss_one (ps_ret (pe_op op_addS (pe_op op_addS (pe_slice sl_str (pv 1) po_none (po_some (pv 2))) (pv 3)) (pe_slice sl_str (pv 1) (po_some (pe_op op_add (pv 2) (pe_call (ok_law_draw T) (hr.mono (by decide)) (by rfl) T.g_law_draw T.k_law_draw T.b_law_draw .nil pass0 (pa_cons (pv 0) (pa_cons pe_int pa_nil))))) po_none)))) pss_nil)
  (pss_one (ps_ret (pe_slice sl_str (pe_op op_mulS (pv 1) (pe_op op_add (pe_op op_fdiv pe_int (pe_callB call_len (by rfl) T.n_len (by decide +kernel) (pa_cons (pv 1) pa_nil))) pe_int)) po_none (po_some (pe_op op_add pe_int (pe_call (ok_law_draw T) (hr.mono (by decide)) (by rfl) T.g_law_draw T.k_law_draw T.b_law_draw .nil pass0 (pa_cons (pv 0) (pa_cons pe_int pa_nil))))))))))
theorem sc_law_spot05 : FnScope ["_law_pool_here", "_law_at", "_law_many", "_law_odd_here", "_law_way"] ["_law_pool_here"] (defScope st_law_spot05) := ⟨rfl, rfl, rfl, by decide +kernel, rfl, by decide +kernel, by decide +kernel⟩
theorem ok_law_spot05 (T : Tx K mg) : FnOk P w K mg base CX0 3 (He.ga K "_law_spot") (fdOf K (He.ga K "_law_spot")) ["_law_pool_here"] (sp_law_spot05 K) := by
  have sc := sc_law_spot05
  refine T.f_law_spot05.ok sc (fun vs H Q E h => ?_) (fun cdv A outer s H vs Q E hr h => ⟨t_law_spot05 K, PSs.nox ?_, pure_law_spot05 h⟩)
  · obtain ⟨_, rfl, _⟩ := h
    rfl
  · exact (pss_cons (ps_par (by rfl) sc.nd rfl rfl (by decide) rfl rfl (pa_cons (pe_op op_sub (pe_call (ok_law_draw T) (hr.mono (by decide)) (by rfl) T.g_law_draw T.k_law_draw T.b_law_draw .nil pass0 (pa_cons (pv 0) (pa_cons pe_int pa_nil))) pe_int) (pa_cons (pe_ix ix_list (pe_lst (pa_cons pe_int (pa_cons pe_int (pa_cons pe_int (pa_cons pe_int (pa_cons pe_int (pa_cons (pe_un un_neg pe_int) (pa_cons (pe_op op_pow pe_int pe_int) pa_nil)))))))) (pe_call (ok_law_draw T) (hr.mono (by decide)) (by rfl) T.g_law_draw T.k_law_draw T.b_law_draw .nil pass0 (pa_cons (pv 0) (pa_cons pe_int pa_nil))) (fun _ _ => rfl)) pa_nil)) (by rfl))
  (pss_cons (ps_par (by rfl) sc.nd rfl rfl (by decide) rfl rfl (pa_cons (pe_call (ok_law_odd T) (hr.mono (by decide)) (by rfl) T.g_law_odd T.k_law_odd T.b_law_odd .nil pass0 (pa_cons (pv 0) pa_nil)) (pa_cons (pe_call (ok_law_draw T) (hr.mono (by decide)) (by rfl) T.g_law_draw T.k_law_draw T.b_law_draw .nil pass0 (pa_cons (pv 0) (pa_cons pe_int pa_nil))) pa_nil)) (by rfl))
  (pss_cons (ps_if (pt_cmpR op_lt (pv 4) pe_int (nomark _)) (pss_one (ps_ret (pe_ix ix_list (pe_lst (pa_cons (pv 1) (pa_cons (pe_tup (pa_cons (pv 1) (pa_cons (pv 2) pa_nil))) pa_nil))) (pv 4) (fun _ _ => rfl)))) pss_nil)
  (pss_cons (ps_if (pt_cmpR op_lt (pv 4) pe_int (nomark _)) (pss_one (ps_ret (pe_ix ix_list (pe_lst (pa_cons (pe_tup (pa_cons (pv 3) (pa_cons pe_int pa_nil))) (pa_cons (pe_tup (pa_cons (pv 1) (pa_cons (pv 3) pa_nil))) (pa_cons (pe_tup (pa_cons (pv 3) (pa_cons (pv 3) pa_nil))) pa_nil)))) (pe_op op_sub (pv 4) pe_int) (fun _ _ => rfl)))) pss_nil)
  (pss_one (ps_ret (pe_ifExp (pt_cmpR op_gt (pe_call (ok_law_draw T) (hr.mono (by decide)) (by rfl) T.g_law_draw T.k_law_draw T.b_law_draw .nil pass0 (pa_cons (pv 0) (pa_cons pe_int pa_nil))) pe_int (nomark _)) (pe_ix ix_list (pe_lst (pa_cons (pe_lst (pa_cons (pv 1) (pa_cons pe_int pa_nil))) (pa_cons (pe_tup (pa_cons (pv 1) pa_nil)) (pa_cons (pe_tup (pa_cons (pv 1) (pa_cons pe_int (pa_cons pe_int pa_nil)))) pa_nil)))) (pe_op op_sub (pv 4) pe_int) (fun _ _ => rfl)) (pv 3))))))))
theorem sc_law_spot_due : FnScope ["_law_spot_here"] ["_law_spot_here"] (defScope st_law_spot_due) := ⟨rfl, rfl, rfl, by decide +kernel, rfl, by decide +kernel, by decide +kernel⟩
theorem ok_law_spot_due (T : Tx K mg) : FnOk P w K mg base CX0 2 (He.ga K "_law_spot_due") (fdOf K (He.ga K "_law_spot_due")) ["_law_spot_here"] (sp_law_spot_due K) := by
  have sc := sc_law_spot_due
  refine T.f_law_spot_due.ok sc (fun vs H Q E h => ?_) (fun cdv A outer s H vs Q E hr h => ⟨t_law_spot_due K, PSs.nox ?_, pure_law_spot_due h⟩)
  · obtain ⟨_, rfl, _⟩ := h
    rfl
  · exact (pss_cons (ps_if (PW.pt (pw_and (pt_val (pe_callB call_isi (by rfl) T.n_isinstance (by decide +kernel) (pa_cons (pv 0) (pa_cons (pe_bltn (by rfl) T.n_tuple (by decide +kernel) rfl) pa_nil)))) (pw_and (pt_cmpR op_eq (pe_callB call_len (by rfl) T.n_len (by decide +kernel) (pa_cons (pv 0) pa_nil)) pe_int (nomark _)) (pw_and (pt_val (pe_call (ok_law_wholeK T) (hr.mono (by decide)) (by rfl) T.g_law_wholeK T.k_law_wholeK T.b_law_wholeK .nil pass0 (pa_cons (pe_ix ix_tup (pv 0) pe_int (fun _ _ => rfl)) pa_nil))) (pw_and1 (pt_val (pe_call (ok_law_wholeK T) (hr.mono (by decide)) (by rfl) T.g_law_wholeK T.k_law_wholeK T.b_law_wholeK .nil pass0 (pa_cons (pe_ix ix_tup (pv 0) pe_int (fun _ _ => rfl)) pa_nil)))))))) (pss_one (ps_ret (pe_ifExp (pt_chain op_le op_le pe_int (pe_ix ix_tup (pv 0) pe_int (fun _ _ => rfl)) pe_int) pe_str pe_str))) pss_nil)
  (pss_one (ps_ret (pe_ifExp (pt_val (pe_call (ok_law_wholeK T) (hr.mono (by decide)) (by rfl) T.g_law_wholeK T.k_law_wholeK T.b_law_wholeK .nil pass0 (pa_cons (pv 0) pa_nil))) pe_str pe_str))))
theorem sc_law_times_due : FnScope ["_law_times", "_law_size"] ["_law_times", "_law_size"] (defScope st_law_times_due) := ⟨rfl, rfl, rfl, by decide +kernel, rfl, by decide +kernel, by decide +kernel⟩
theorem ok_law_times_due (T : Tx K mg) : FnOk P w K mg base CX0 2 (He.ga K "_law_times_due") (fdOf K (He.ga K "_law_times_due")) ["_law_times", "_law_size"] (sp_law_times_due K) := by
  have sc := sc_law_times_due
  refine T.f_law_times_due.ok sc (fun vs H Q E h => ?_) (fun cdv A outer s H vs Q E hr h => ⟨t_law_times_due K, PSs.nox ?_, pure_law_times_due h⟩)
  · obtain ⟨_, _, rfl, _⟩ := h
    rfl
  · exact (pss_cons (ps_if (PW.pt (pw_or (pt_not (pt_val (pe_call (ok_law_wholeK T) (hr.mono (by decide)) (by rfl) T.g_law_wholeK T.k_law_wholeK T.b_law_wholeK .nil pass0 (pa_cons (pv 0) pa_nil)))) (pw_or1 (pt_cmpR op_lt (pv 0) pe_int (nomark _))))) (pss_one (ps_ret pe_str)) pss_nil)
  (pss_one (ps_ret (pe_ifExp (pt_cmpR op_le (pe_op op_mul (pv 1) (pv 0)) pe_int (nomark _)) pe_str pe_str))))
theorem sc_law_right05 : FnScope ["_law_pool_here", "_law_word_here", "_law_ring", "_law_mate", "_law_kept", "_law_turn", "_law_line", "_law_due_here", "_law_near", "_law_joined", "_law_thing", "_law_spot_here"] ["_law_pool_here"] (defScope st_law_right05) := ⟨rfl, rfl, rfl, by decide +kernel, rfl, by decide +kernel, by decide +kernel⟩
theorem ok_law_right05 (T : Tx K mg) (TB : ∀ i : Nat, i < 2 → TabB base mg (tabX K i).1 (tabX K i).2) : FnOk P w K mg base CX0 10 (He.ga K "_law_right") (fdOf K (He.ga K "_law_right")) ["_law_pool_here"] (sp_law_right05 K) := by
  have sc := sc_law_right05
  refine FunD_okC T.f_law_right05 sc (fun vs H Q E h => ?_) (fun A outer s H vs Q E hr h => ⟨t_law_right05 K, PSs.nox ?_, pure_law_right05 T.own05 h⟩)
  · obtain ⟨_, rfl, _⟩ := h
    rfl
  · exact (pss_cons (ps_set (i := 1) sc.nd rfl (by first | exact Or.inl rfl | exact Or.inr rfl) (pe_call (ok_law_long T) (hr.mono (by decide)) (by rfl) T.g_law_long T.k_law_long T.b_law_long .nil pass0 (pa_cons (pv 0) (pa_cons pe_int pa_nil))))
  (pss_cons (ps_asg (pe_tup (pa_cons (pe_make T.mk_Ring (ok_Ring_init T) (hr.mono (by decide)) (by rfl) T.g_Ring T.b_Ring_init .nil pass0 (pa_cons (pv 1) pa_nil)) (pa_cons (pe_make T.mk_Ring (ok_Ring_init T) (hr.mono (by decide)) (by rfl) T.g_Ring T.b_Ring_init .nil pass0 (pa_cons (pe_call (ok_law_long T) (hr.mono (by decide)) (by rfl) T.g_law_long T.k_law_long T.b_law_long .nil pass0 (pa_cons (pv 0) (pa_cons pe_int pa_nil))) pa_nil)) pa_nil))) (pg_tup rfl (pgs_cons (pg_name (i := 2) sc.nd rfl (by first | exact Or.inl rfl | exact Or.inr rfl)) (pgs_cons (pg_name (i := 3) sc.nd rfl (by first | exact Or.inl rfl | exact Or.inr rfl)) pgs_nil))))
  (pss_cons (ps_set (i := 4) sc.nd rfl (by first | exact Or.inl rfl | exact Or.inr rfl) (pe_lst (pa_cons (pe_prop (pv 2) T.c_Ring T.p_Ring_text (ok_Ring_text T) (hr.mono (by decide)) T.b_Ring_text .nil pass0 rfl) (pa_cons (pe_prop (pv 3) T.c_Ring T.p_Ring_text (ok_Ring_text T) (hr.mono (by decide)) T.b_Ring_text .nil pass0 rfl) pa_nil))))
  (pss_cons (ps_for PassesOwn.never rfl (pi_range1 (by rfl) T.n_range (pa_cons pe_int pa_nil)) (pg_name (i := 5) sc.nd rfl (by first | exact Or.inl rfl | exact Or.inr rfl)) (pss_cons (ps_asg (pe_tup (pa_cons (pe_call (ok_law_odd T) (hr.mono (by decide)) (by rfl) T.g_law_odd T.k_law_odd T.b_law_odd .nil pass0 (pa_cons (pv 0) pa_nil)) (pa_cons (pe_call (ok_law_spot05 T) (hr.mono (by decide)) (by rfl) T.g_law_spot05 T.k_law_spot05 T.b_law_spot05 .nil pass0 (pa_cons (pv 0) pa_nil)) pa_nil))) (pg_tup rfl (pgs_cons (pg_name (i := 10) sc.nd rfl (by first | exact Or.inl rfl | exact Or.inr rfl)) (pgs_cons (pg_name (i := 11) sc.nd rfl (by first | exact Or.inl rfl | exact Or.inr rfl)) pgs_nil))))
  (pss_cons (ps_set (i := 6) sc.nd rfl (by first | exact Or.inl rfl | exact Or.inr rfl) (pe_ifExp (pt_cmpR op_eq (pe_call (ok_law_draw T) (hr.mono (by decide)) (by rfl) T.g_law_draw T.k_law_draw T.b_law_draw .nil pass0 (pa_cons (pv 0) (pa_cons pe_int pa_nil))) pe_int (nomark _)) (pv 10) (pe_call (ok_law_spoilt05 T) (hr.mono (by decide)) (by rfl) T.g_law_spoilt05 T.k_law_spoilt05 T.b_law_spoilt05 .nil pass0 (pa_cons (pv 0) (pa_cons (pv 1) pa_nil)))))
  (pss_cons (ps_set (i := 7) sc.nd rfl (by first | exact Or.inl rfl | exact Or.inr rfl) (pe_call (ok_law_due05 T) (hr.mono (by decide)) (by rfl) T.g_law_due05 T.k_law_due05 T.b_law_due05 .nil pass0 (pa_cons (pe_ifExp (pt_val (pe_call (ok_law_is_word T) (hr.mono (by decide)) (by rfl) T.g_law_is_word T.k_law_is_word T.b_law_is_word .nil pass0 (pa_cons (pv 6) (pa_cons pe_str pa_nil)))) pe_str pe_str) (pa_cons (pv 6) pa_nil))))
  (pss_cons (ps_if (pt_cmpR (op_neS hr.units (hr.mono (by decide))) (pe_lamN (k := 7) (T := tabs05 K) (by rfl) T.g_law_heard05 T.f_law_heard05 T.b_law_heard05 sc_law_heard05 rfl (Or.inl rfl) (gives_law_heard05 T (by decide)) (TB 0 (by decide)) rfl (.head _) (T.tu_law_right05) (hr.mono (by decide)) (LamX.lamS_by (by kernel_rfl)) rfl (fun _ _ _ _ _ => rfl) (fun A outer s H E f c' hr => (pe_make T.mk_Ring (okx_Ring_init T) (hr.mono (by decide)) (by rfl) T.g_Ring T.b_Ring_init .nil lam_passes (pa_cons (pv 6) pa_nil)))) (pv 7) (nomark _)) (pss_one (ps_ret pe_bl)) pss_nil)
  (pss_cons (ps_if (pt_cmpR (op_neS hr.units (hr.mono (by decide))) (pe_lamN (k := 7) (T := tabs05 K) (by rfl) T.g_law_heard05 T.f_law_heard05 T.b_law_heard05 sc_law_heard05 rfl (Or.inl rfl) (gives_law_heard05 T (by decide)) (TB 0 (by decide)) rfl (.head _) (T.tu_law_right05) (hr.mono (by decide)) (LamX.lamS_by (by kernel_rfl)) rfl (fun _ _ _ _ _ => rfl) (fun A outer s H E f c' hr => (ix_own T.s_Ring_getitem T.fn_Ring_getitem (okx_Ring_getitem T) (hr.mono (by decide)) T.b_Ring_getitem lam_passes (pv 2) (pv 11) (fun _ _ => rfl)))) (pe_call (ok_law_due05 T) (hr.mono (by decide)) (by rfl) T.g_law_due05 T.k_law_due05 T.b_law_due05 .nil pass0 (pa_cons (pe_call (ok_law_spot_due T) (hr.mono (by decide)) (by rfl) T.g_law_spot_due T.k_law_spot_due T.b_law_spot_due .nil pass0 (pa_cons (pv 11) pa_nil)) (pa_cons (pv 11) pa_nil))) (nomark _)) (pss_one (ps_ret pe_bl)) pss_nil)
  (pss_cons (ps_if (pt_cmpR (op_neS hr.units (hr.mono (by decide))) (pe_lamN (k := 7) (T := tabs05 K) (by rfl) T.g_law_heard05 T.f_law_heard05 T.b_law_heard05 sc_law_heard05 rfl (Or.inl rfl) (gives_law_heard05 T (by decide)) (TB 0 (by decide)) rfl (.head _) (T.tu_law_right05) (hr.mono (by decide)) (LamX.lamS_by (by kernel_rfl)) rfl (fun _ _ _ _ _ => rfl) (fun A outer s H E f c' hr => (pe_meth (pv 2) T.c_Ring T.m_Ring_turned (okx_Ring_turned T) (hr.mono (by decide)) T.b_Ring_turned .nil lam_passes (pa_cons (pv 11) pa_nil)))) (pe_call (ok_law_due05 T) (hr.mono (by decide)) (by rfl) T.g_law_due05 T.k_law_due05 T.b_law_due05 .nil pass0 (pa_cons (pe_ifExp (pt_val (pe_call (ok_law_wholeK T) (hr.mono (by decide)) (by rfl) T.g_law_wholeK T.k_law_wholeK T.b_law_wholeK .nil pass0 (pa_cons (pv 11) pa_nil))) pe_str pe_str) (pa_cons (pv 11) pa_nil))) (nomark _)) (pss_one (ps_ret pe_bl)) pss_nil)
  (pss_cons (ps_set (i := 8) sc.nd rfl (by first | exact Or.inl rfl | exact Or.inr rfl) (pe_op op_sub (pe_op op_add (pe_op op_fdiv pe_int (pe_callB call_len (by rfl) T.n_len (by decide +kernel) (pa_cons (pv 1) pa_nil))) (pe_call (ok_law_draw T) (hr.mono (by decide)) (by rfl) T.g_law_draw T.k_law_draw T.b_law_draw .nil pass0 (pa_cons (pv 0) (pa_cons pe_int pa_nil)))) pe_int))
  (pss_cons (ps_if (pt_cmpR (op_neS hr.units (hr.mono (by decide))) (pe_lamN (k := 7) (T := tabs05 K) (by rfl) T.g_law_heard05 T.f_law_heard05 T.b_law_heard05 sc_law_heard05 rfl (Or.inl rfl) (gives_law_heard05 T (by decide)) (TB 0 (by decide)) rfl (.head _) (T.tu_law_right05) (hr.mono (by decide)) (LamX.lamS_by (by kernel_rfl)) rfl (fun _ _ _ _ _ => rfl) (fun A outer s H E f c' hr => (pe_op (op_binO_any (op := .Mult) T.bta_Ring_mul (okx_Ring_mul T) (hr.mono (by decide)) T.b_Ring_mul lam_passes) (pv 2) (pv 8)))) (pe_call (ok_law_due05 T) (hr.mono (by decide)) (by rfl) T.g_law_due05 T.k_law_due05 T.b_law_due05 .nil pass0 (pa_cons (pe_call (ok_law_times_due T) (hr.mono (by decide)) (by rfl) T.g_law_times_due T.k_law_times_due T.b_law_times_due .nil pass0 (pa_cons (pv 8) (pa_cons (pe_callB call_len (by rfl) T.n_len (by decide +kernel) (pa_cons (pv 1) pa_nil)) pa_nil))) (pa_cons (pv 8) pa_nil))) (nomark _)) (pss_one (ps_ret pe_bl)) pss_nil)
  (pss_cons (ps_if (pt_cmpR (op_neS hr.units (hr.mono (by decide))) (pe_lamN (k := 7) (T := tabs05 K) (by rfl) T.g_law_heard05 T.f_law_heard05 T.b_law_heard05 sc_law_heard05 rfl (Or.inl rfl) (gives_law_heard05 T (by decide)) (TB 0 (by decide)) rfl (.head _) (T.tu_law_right05) (hr.mono (by decide)) (LamX.lamS_by (by kernel_rfl)) rfl (fun _ _ _ _ _ => rfl) (fun A outer s H E f c' hr => (pe_op (op_binO_any (op := .Mult) T.bta_Ring_mul (okx_Ring_mul T) (hr.mono (by decide)) T.b_Ring_mul lam_passes) (pv 2) (pv 10)))) (pe_call (ok_law_due05 T) (hr.mono (by decide)) (by rfl) T.g_law_due05 T.k_law_due05 T.b_law_due05 .nil pass0 (pa_cons (pe_call (ok_law_times_due T) (hr.mono (by decide)) (by rfl) T.g_law_times_due T.k_law_times_due T.b_law_times_due .nil pass0 (pa_cons (pv 10) (pa_cons (pe_callB call_len (by rfl) T.n_len (by decide +kernel) (pa_cons (pv 1) pa_nil)) pa_nil))) (pa_cons (pv 10) pa_nil))) (nomark _)) (pss_one (ps_ret pe_bl)) pss_nil)
  (pss_cons (ps_if (pt_cmpR (op_neS hr.units (hr.mono (by decide))) (pe_lamN (k := 7) (T := tabs05 K) (by rfl) T.g_law_heard05 T.f_law_heard05 T.b_law_heard05 sc_law_heard05 rfl (Or.inl rfl) (gives_law_heard05 T (by decide)) (TB 0 (by decide)) rfl (.head _) (T.tu_law_right05) (hr.mono (by decide)) (LamX.lamS_by (by kernel_rfl)) rfl (fun _ _ _ _ _ => rfl) (fun A outer s H E f c' hr => (pe_op (op_binO_any (op := .Add) T.bta_Ring_add (okx_Ring_add T) (hr.mono (by decide)) T.b_Ring_add lam_passes) (pv 2) (pv 10)))) (pe_call (ok_law_due05 T) (hr.mono (by decide)) (by rfl) T.g_law_due05 T.k_law_due05 T.b_law_due05 .nil pass0 (pa_cons pe_str (pa_cons (pv 10) pa_nil))) (nomark _)) (pss_one (ps_ret pe_bl)) pss_nil)
  (pss_cons (ps_set (i := 9) sc.nd rfl (by first | exact Or.inl rfl | exact Or.inr rfl) (pe_ifExp (pt_cmpR op_le (pe_op op_add (pe_callB call_len (by rfl) T.n_len (by decide +kernel) (pa_cons (pe_ix ix_list (pv 4) pe_int (fun _ _ => rfl)) pa_nil)) (pe_callB call_len (by rfl) T.n_len (by decide +kernel) (pa_cons (pe_ix ix_list (pv 4) pe_int (fun _ _ => rfl)) pa_nil))) pe_int (nomark _)) pe_str pe_str))
  (pss_one (ps_if (PW.pt (pw_or (pt_cmpR (op_neS hr.units (hr.mono (by decide))) (pe_lamN (k := 7) (T := tabs05 K) (by rfl) T.g_law_heard05 T.f_law_heard05 T.b_law_heard05 sc_law_heard05 rfl (Or.inl rfl) (gives_law_heard05 T (by decide)) (TB 0 (by decide)) rfl (.head _) (T.tu_law_right05) (hr.mono (by decide)) (LamX.lamS_by (by kernel_rfl)) rfl (fun _ _ _ _ _ => rfl) (fun A outer s H E f c' hr => (pe_op (op_binO_same (op := .Add) T.s_Ring_add T.sf_Ring (okx_Ring_add T) (hr.mono (by decide)) T.b_Ring_add lam_passes) (pv 2) (pv 3)))) (pe_call (ok_law_due05 T) (hr.mono (by decide)) (by rfl) T.g_law_due05 T.k_law_due05 T.b_law_due05 .nil pass0 (pa_cons (pv 9) (pa_cons (pv 3) pa_nil))) (nomark _)) (pw_or1 (pt_cmpR (op_neS hr.units (hr.mono (by decide))) (pe_lst (pa_cons (pe_prop (pv 2) T.c_Ring T.p_Ring_text (ok_Ring_text T) (hr.mono (by decide)) T.b_Ring_text .nil pass0 rfl) (pa_cons (pe_prop (pv 3) T.c_Ring T.p_Ring_text (ok_Ring_text T) (hr.mono (by decide)) T.b_Ring_text .nil pass0 rfl) pa_nil))) (pv 4) (nomark _))))) (pss_one (ps_ret pe_bl)) pss_nil))))))))))))))
  (pss_one (ps_ret pe_bl))))))
theorem sc_law_at_the_limit : FnScope ["_law_long_here", "_law_less"] [] (defScope st_law_at_the_limit) := ⟨rfl, rfl, rfl, by decide +kernel, rfl, by decide +kernel, by decide +kernel⟩
theorem ok_law_at_the_limit (T : Tx K mg) (TB : ∀ i : Nat, i < 2 → TabB base mg (tabX K i).1 (tabX K i).2) : FnOk P w K mg base CX0 10 (He.ga K "_law_at_the_limit") (fdOf K (He.ga K "_law_at_the_limit")) [] (sp_law_at_the_limit K) := by
  have sc := sc_law_at_the_limit
  refine FunD_okC T.f_law_at_the_limit sc (fun vs H Q E h => ?_) (fun A outer s H vs Q E hr h => ⟨t_law_at_the_limit K, PSs.nox ?_, pure_law_at_the_limit T.own05 h⟩)
  · obtain ⟨rfl, _⟩ := h
    rfl
  · exact (pss_cons (ps_asg (pe_tup (pa_cons (pe_make T.mk_Ring (ok_Ring_init T) (hr.mono (by decide)) (by rfl) T.g_Ring T.b_Ring_init .nil pass0 (pa_cons (pe_op op_mulS pe_str pe_int) pa_nil)) (pa_cons (pe_make T.mk_Ring (ok_Ring_init T) (hr.mono (by decide)) (by rfl) T.g_Ring T.b_Ring_init .nil pass0 (pa_cons (pe_op op_mulS pe_str pe_int) pa_nil)) pa_nil))) (pg_tup rfl (pgs_cons (pg_name (i := 0) sc.nd rfl (by first | exact Or.inl rfl | exact Or.inr rfl)) (pgs_cons (pg_name (i := 1) sc.nd rfl (by first | exact Or.inl rfl | exact Or.inr rfl)) pgs_nil))))
  (pss_cons (ps_if (pt_cmpR (op_neR mon_ringEq hr.units (hr.mono (by decide)) (spEq_of ringEq_imp (ok_Ring_eq T)) T.s_Ring_eq T.b_Ring_eq pass0 (hr.mono (by decide))) (pe_lamN (k := 7) (T := tabs05 K) (by rfl) T.g_law_heard05 T.f_law_heard05 T.b_law_heard05 sc_law_heard05 rfl (Or.inl rfl) (gives_law_heard05 T (by decide)) (TB 1 (by decide)) rfl (.tail _ (.head _)) (T.tu_law_at_the_limit) (hr.mono (by decide)) (LamX.lamS_by (by kernel_rfl)) rfl (fun _ _ _ _ _ => rfl) (fun A outer s H E f c' hr => (pe_op (op_binO_same (op := .Add) T.s_Ring_add T.sf_Ring (okx_Ring_add T) (hr.mono (by decide)) T.b_Ring_add lam_passes) (pv 1) (pe_make T.mk_Ring (okx_Ring_init T) (hr.mono (by decide)) (by rfl) T.g_Ring T.b_Ring_init .nil lam_passes (pa_cons pe_str pa_nil))))) (pe_lst (pa_cons pe_str (pa_cons (pe_call (ok_law_faceR T 6) (hr.mono (by decide)) (by rfl) T.g_law_faceR T.k_law_faceR T.b_law_faceR .nil pass0 (pa_cons pe_non pa_nil)) pa_nil))) (nomark _)) (pss_one (ps_ret pe_bl)) pss_nil)
  (pss_cons (ps_if (pt_cmpR (op_neR mon_ringEq hr.units (hr.mono (by decide)) (spEq_of ringEq_imp (ok_Ring_eq T)) T.s_Ring_eq T.b_Ring_eq pass0 (hr.mono (by decide))) (pe_lamN (k := 7) (T := tabs05 K) (by rfl) T.g_law_heard05 T.f_law_heard05 T.b_law_heard05 sc_law_heard05 rfl (Or.inl rfl) (gives_law_heard05 T (by decide)) (TB 1 (by decide)) rfl (.tail _ (.head _)) (T.tu_law_at_the_limit) (hr.mono (by decide)) (LamX.lamS_by (by kernel_rfl)) rfl (fun _ _ _ _ _ => rfl) (fun A outer s H E f c' hr => (pe_op (op_binO_same (op := .Add) T.s_Ring_add T.sf_Ring (okx_Ring_add T) (hr.mono (by decide)) T.b_Ring_add lam_passes) (pv 0) (pe_make T.mk_Ring (okx_Ring_init T) (hr.mono (by decide)) (by rfl) T.g_Ring T.b_Ring_init .nil lam_passes (pa_cons pe_str pa_nil))))) (pe_lst (pa_cons pe_str (pa_cons (pe_call (ok_law_faceR T 6) (hr.mono (by decide)) (by rfl) T.g_law_faceR T.k_law_faceR T.b_law_faceR .nil pass0 (pa_cons (pe_make T.mk_Ring (ok_Ring_init T) (hr.mono (by decide)) (by rfl) T.g_Ring T.b_Ring_init .nil pass0 (pa_cons pe_str pa_nil)) pa_nil)) pa_nil))) (nomark _)) (pss_one (ps_ret pe_bl)) pss_nil)
  (pss_cons (ps_if (pt_cmpR (op_neR mon_ringEq hr.units (hr.mono (by decide)) (spEq_of ringEq_imp (ok_Ring_eq T)) T.s_Ring_eq T.b_Ring_eq pass0 (hr.mono (by decide))) (pe_lamN (k := 7) (T := tabs05 K) (by rfl) T.g_law_heard05 T.f_law_heard05 T.b_law_heard05 sc_law_heard05 rfl (Or.inl rfl) (gives_law_heard05 T (by decide)) (TB 1 (by decide)) rfl (.tail _ (.head _)) (T.tu_law_at_the_limit) (hr.mono (by decide)) (LamX.lamS_by (by kernel_rfl)) rfl (fun _ _ _ _ _ => rfl) (fun A outer s H E f c' hr => (pe_op (op_binO_same (op := .Add) T.s_Ring_add T.sf_Ring (okx_Ring_add T) (hr.mono (by decide)) T.b_Ring_add lam_passes) (pv 1) (pe_make T.mk_Ring (okx_Ring_init T) (hr.mono (by decide)) (by rfl) T.g_Ring T.b_Ring_init .nil lam_passes (pa_cons pe_str pa_nil))))) (pe_lst (pa_cons pe_str (pa_cons (pe_call (ok_law_faceR T 6) (hr.mono (by decide)) (by rfl) T.g_law_faceR T.k_law_faceR T.b_law_faceR .nil pass0 (pa_cons (pe_make T.mk_Ring (ok_Ring_init T) (hr.mono (by decide)) (by rfl) T.g_Ring T.b_Ring_init .nil pass0 (pa_cons pe_str pa_nil)) pa_nil)) pa_nil))) (nomark _)) (pss_one (ps_ret pe_bl)) pss_nil)
  (pss_cons (ps_if (PW.pt (pw_or (pt_cmpR (op_neR mon_ringEq hr.units (hr.mono (by decide)) (spEq_of ringEq_imp (ok_Ring_eq T)) T.s_Ring_eq T.b_Ring_eq pass0 (hr.mono (by decide))) (pe_lamN (k := 7) (T := tabs05 K) (by rfl) T.g_law_heard05 T.f_law_heard05 T.b_law_heard05 sc_law_heard05 rfl (Or.inl rfl) (gives_law_heard05 T (by decide)) (TB 1 (by decide)) rfl (.tail _ (.head _)) (T.tu_law_at_the_limit) (hr.mono (by decide)) (LamX.lamS_by (by kernel_rfl)) rfl (fun _ _ _ _ _ => rfl) (fun A outer s H E f c' hr => (pe_op (op_binO_int (op := .Mult) T.bt_Ring_mul (okx_Ring_mul T) (hr.mono (by decide)) T.b_Ring_mul lam_passes) (pe_make T.mk_Ring (okx_Ring_init T) (hr.mono (by decide)) (by rfl) T.g_Ring T.b_Ring_init .nil lam_passes (pa_cons pe_str pa_nil)) pe_int))) (pe_lst (pa_cons pe_str (pa_cons (pe_call (ok_law_faceR T 6) (hr.mono (by decide)) (by rfl) T.g_law_faceR T.k_law_faceR T.b_law_faceR .nil pass0 (pa_cons pe_non pa_nil)) pa_nil))) (nomark _)) (pw_or1 (pt_cmpR op_ne (pe_callB (call_lenO T.s_Ring_len (ok_Ring_len T) (hr.mono (by decide)) T.b_Ring_len pass0) (by rfl) T.n_len (by decide +kernel) (pa_cons (pe_op (op_binO_same (op := .Add) T.s_Ring_add T.sf_Ring (ok_Ring_add T) (hr.mono (by decide)) T.b_Ring_add pass0) (pv 1) (pe_make T.mk_Ring (ok_Ring_init T) (hr.mono (by decide)) (by rfl) T.g_Ring T.b_Ring_init .nil pass0 (pa_cons pe_str pa_nil))) pa_nil)) pe_int (nomark _))))) (pss_one (ps_ret pe_bl)) pss_nil)
  (pss_one (ps_ret (pe_and (pe_cmpR op_eq (pe_callB (call_lenO T.s_Ring_len (ok_Ring_len T) (hr.mono (by decide)) T.b_Ring_len pass0) (by rfl) T.n_len (by decide +kernel) (pa_cons (pe_op (op_binO_int (op := .Mult) T.bt_Ring_mul (ok_Ring_mul T) (hr.mono (by decide)) T.b_Ring_mul pass0) (pe_make T.mk_Ring (ok_Ring_init T) (hr.mono (by decide)) (by rfl) T.g_Ring T.b_Ring_init .nil pass0 (pa_cons pe_str pa_nil)) pe_int) pa_nil)) pe_int (nomark _)) (pe_one (pe_cmpR (op_eqD hr.units) (pe_lamN (k := 7) (T := tabs05 K) (by rfl) T.g_law_heard05 T.f_law_heard05 T.b_law_heard05 sc_law_heard05 rfl (Or.inl rfl) (gives_law_heard05 T (by decide)) (TB 1 (by decide)) rfl (.tail _ (.head _)) (T.tu_law_at_the_limit) (hr.mono (by decide)) (LamX.lamS_by (by kernel_rfl)) rfl (fun _ _ _ _ _ => rfl) (fun A outer s H E f c' hr => (pe_op (op_binO_int (op := .Mult) T.bt_Ring_mul (okx_Ring_mul T) (hr.mono (by decide)) T.b_Ring_mul lam_passes) (pe_make T.mk_Ring (okx_Ring_init T) (hr.mono (by decide)) (by rfl) T.g_Ring T.b_Ring_init .nil lam_passes (pa_cons pe_str pa_nil)) pe_int))) (pe_lst (pa_cons pe_str (pa_cons (pe_call (ok_law_faceR T 6) (hr.mono (by decide)) (by rfl) T.g_law_faceR T.k_law_faceR T.b_law_faceR .nil pass0 (pa_cons pe_int pa_nil)) pa_nil))) (nomark _)))))))))))
theorem sc_law05 : FnScope ["_law_script", "_law_k"] ["_law_script"] (defScope st_law05) := ⟨rfl, rfl, rfl, by decide +kernel, rfl, by decide +kernel, by decide +kernel⟩
theorem ok_law05 (T : Tx K mg) (TB : ∀ i : Nat, i < 2 → TabB base mg (tabX K i).1 (tabX K i).2) : FnOk P w K mg base CX0 11 (He.ga K "law") (fdOf K (He.ga K "law")) ["_law_script"] (sp_law05 K) := by
  have sc := sc_law05
  refine FunD_okC T.f_law05 sc (fun vs H Q E h => ?_) (fun A outer s H vs Q E hr h => ⟨t_law05 K, PSs.nox ?_, pure_law05 h⟩)
  · obtain ⟨_, _, rfl, _⟩ := h
    rfl
  · exact (pss_cons (ps_if (pt_not (pt_val (pe_call0 (ok_law_at_the_limit T TB) (hr.mono (by decide)) (by rfl) T.g_law_at_the_limit T.k_law_at_the_limit T.b_law_at_the_limit .nil pass0))) (pss_one (ps_ret pe_bl)) pss_nil)
  (pss_one (ps_ret (pe_callB (cr_all rfl) (by rfl) T.n_all (by decide +kernel) (pa_cons (pe_lc (own := [("_law_k", 1)]) (g := gName 1) (by rfl) sc.nd (pi_range1 (by rfl) T.n_range (pa_cons (pe_callB (call_max2 rfl) (by rfl) T.n_max (by decide +kernel) (pa_cons pe_int (pa_cons (pe_callB (call_min2 rfl) (by rfl) T.n_min (by decide +kernel) (pa_cons (pe_callB call_len (by rfl) T.n_len (by decide +kernel) (pa_cons (pv 0) pa_nil)) (pa_cons pe_int pa_nil))) pa_nil))) pa_nil)) (blkOk_by (own := [("_law_k", 1)]) (by kernel_rfl)) (fun _ _ _ _ _ => pg_name (i := 1) sc.nd rfl (by first | exact Or.inl rfl | exact Or.inr rfl)) (fun _ _ _ _ _ => pts_nil) (fun _ _ _ _ _ => (pe_call (ok_law_right05 T TB) (hr.mono (by decide)) (by rfl) T.g_law_right05 T.k_law_right05 T.b_law_right05 .nil pass0 (pa_cons (pe_call (ok_law_pool T) (hr.mono (by decide)) (by rfl) T.g_law_pool T.k_law_pool T.b_law_pool .nil pass0 (pa_cons (pe_call (ok_law_cell T) (hr.mono (by decide)) (by rfl) T.g_law_cell T.k_law_cell T.b_law_cell .nil pass0 (pa_cons (pv 0) (pa_cons (pv 1) pa_nil))) pa_nil)) pa_nil)))) pa_nil)))))
end
end WB
namespace WB
open PySem PySem.Spec PyProof.Rows L2 LamX
theorem facts {P : Program} {w : World} {K : Fr'} {h : Heap} {mg : Str → Option Value} {f : Addr} (X : K.In h) (G : h.Ns mainGlobals mg) (hfa : mg ("law" : Str) = some (.ref f)) (c : SaysW fa fn ex K) :
    ∃ fd : FuncData, (∀ (s : Shared) (v : Value), BindsTo s fd ⟨[v], []⟩ [("_law_script", v)]) ∧ ∀ base : Heap, K.In base → base.Ns mainGlobals mg → (∀ p ∈ tf.map (He.cT K), TabB base mg p.1 p.2) → FnOk P w K mg base CX0 11 f fd ["_law_script"] (sp_law05 K) := by
  have T : Tx K mg := ⟨c, h, X, G⟩
  have e := hfa.symm.trans T.g_law05
  cases e
  have b := FunD.bindsA (ps := ["_law_script"]) (kws := d_law05.kws K) T.f_law05 fun _ _ _ _ _ _ us hl => match us, hl with | [_], _ => rfl
  refine ⟨_, fun s v => b s [v] rfl, fun base _ _ tb => ok_law05 T fun i hi => ?_⟩
  refine tb _ (List.mem_map.mpr ⟨tf[i]'hi, List.getElem_mem _, ?_⟩)
  match i, hi with
  | 0, _ => rfl
  | 1, _ => rfl
end WB
open PySem PySem.W PySem.Calls PyProof.Rows in
set_option maxRecDepth 100000 in
set_option maxHeartbeats 0 in
theorem PySem.Challenge.cw_wherebegun_k05_rings_refused_holds : PySem.Challenge.rw_wherebegun_k05_rings_refused.Holds := by
  w_on; o_law
  refine HandSHeadRun.head_any (r := OpenLaw.row PySem.Challenge.rw_wherebegun_k05_rings_refused) (q := view (OpenLaw.row PySem.Challenge.rw_wherebegun_k05_rings_refused).prog [38]) (H := WB.hk) (ob := WB.ob) (M := 20000) (loose := WB.looseN) (d := HandSHeadRun.topDef (OpenLaw.row PySem.Challenge.rw_wherebegun_k05_rings_refused).prog 38) (kwd := []) WB.ob_eq
    (by kernel_rfl) (fun s => by kernel_rfl) WB.runH (by kernel_rfl) (by kernel_rfl) (by kernel_rfl) (by rfl) (by first | assumption | decide +kernel) (by decide +kernel) ⟨rfl, rfl, rfl, rfl, rfl, by decide +kernel⟩ ?hw ?hc
  case hw => w_witness2
  case hc =>
    refine WB.walk_ofTE (l := PySem.Challenge.rw_wherebegun_k05_rings_refused) (n := 63) (k := 11) (x := "_law_script") (CX := L2.CX0) rfl (by decide) (by kernel_rfl) ⟨rfl, by decide, by decide⟩ ?F (fun _ _ _ _ z => z)
    intro w mg fa h Y G hmg0
    obtain ⟨K, KX, c⟩ := Y
    have hmg : mg ("law" : PySem.Str) = some (.ref fa) := by
      have e : (HandSHeadRun.topDef (OpenLaw.row PySem.Challenge.rw_wherebegun_k05_rings_refused).prog 38).name = ("law" : PySem.Str) := by kernel_rfl
      rw [← e]
      exact hmg0
    obtain ⟨fd, hb, hF⟩ := WB.facts (P := (PySem.Challenge.rw_wherebegun_k05_rings_refused).prog) (w := w) KX G hmg c.c
    refine ⟨K, KX, fd, WB.tf.map (He.cT K), WB.sp_law05 K, ?_, ?_, ?_, hb, fun H a ns hl _ hT hS => ⟨a, ns, rfl, hS, hl, WB.tabs_ofL (l := WB.tabL) hT, fun _ => rfl⟩, hF⟩
    · intro p hp
      obtain ⟨q, hq, rfl⟩ := List.mem_map.mp hp
      exact c.empty q hq
    · intro p hp
      obtain ⟨q, hq, rfl⟩ := List.mem_map.mp hp
      exact c.out q hq
    · intro p hp
      obtain ⟨q, hq, rfl⟩ := List.mem_map.mp hp
      exact PySem.W.codeHd_of_K KX (c.hd q hq)
