import PyProof.Rows.All
import Wide.All
import OpenK.AllK
import Wide.FinOn
import HandS.ForMost
import HandS.Property
import HandS.IsInst
import HandS.Defaults
import HandS.MakeKw
import HandS.WideBits
import HandS.TupAny
import HandS.Walk
import HandS.Deep
import HandS.OwnEq
import HandS.HeadHook4
import KE.KOpsOwn
import KE.KCallOwn
import HandS.Style
import HandS.TryOnly
import HandS.RaiseMore
import KE.DatumOrd
import PyProof.Rows.StrRev
import HandS.Strs
import PyProof.ListStr
import HandS.Conv
import HandS.More
import PyProof.StrLawsIn
import HandS.ClsMeth
import HandS.HeadNt
import HandS.Head0
import HandS.Head1
import HandS.Head2
import HandS.HeadEnd
import HandS.Star
import KE.GoesMore
import HandS.DictComp
import HandS.MakeKwOnly
import HandS.HeadHook3
import HandS.SetTxtIn
import PyProof.Rows.Range3
import PyProof.CollectStr
import PyProof.TupleOfSeq
import HandS.Wide
import HandS.List
import PySem.Challenge.RW_wherebegun_k70_differences_judged
set_option Elab.async false
set_option linter.all false
set_option maxRecDepth 100000
set_option maxHeartbeats 4000000
namespace WB
open PySem PySem.Spec PyProof.Rows L2
section
variable {X : Cx} {CX : CXT} {k : Nat} {f C : Addr} {fd : FuncData} {ps : List Str} {sp : Sp} {dvs : List V} {ds : List Value} {E : XK}
theorem run_sub {A : Around} {pins : List (Addr × Obj)} {σ : L2.St} {H : Hp} {s : Shared} {Q : VK} {us : List Value} {vs : List V} (F : FnOk X.prog X.w X.K X.mg X.base CX k f fd ps sp) (sb : Sub X k A) (hb : Binds X.K fd ps ds) (hd : Vals dvs ds) (hx : Passes CX X E)
    (I : Inv X pins σ H s) (r : Vals vs us) (h : sp (vs ++ dvs) H Q E) : wpAny (model X.prog X.w) A (call (.ref f) us) (EP X pins σ Q) X.xe s := by
  have r2 : Vals (vs ++ dvs) (us ++ ds) := r.append hd
  have hl : (us ++ ds).length = ps.length := by rw [← r2.length]; exact F.len _ _ _ _ h
  have e0 : Env0 X.prog X.w X.K X.mg X.base A X.stack s H := by
    have e := I.env0
    exact ⟨by rw [sb.fr]; exact e.frames, e.mod, e.bs, e.bsz, e.funs, e.frf, e.hok, e.bare⟩
  refine wpAny_call (codeAny_mono (F.run A X.stack s H ⟨us, []⟩ (us ++ ds) (vs ++ dvs) Q E sb.room e0 (hb s us I.kIn hl) r2 h) fun r s' hq => ?_)
  cases r with
  | error e => exact hx pins σ H s e s' I hq
  | ok fl =>
    cases fl with
    | ret u => exact I.after hq
    | next => exact False.elim hq
    | brk => exact False.elim hq
    | cont => exact False.elim hq
theorem inst_at {pins : List (Addr × Obj)} {σ : L2.St} {H : Hp} {s : Shared} {a C dx : Addr} {fs : List (Str × V)} (I : Inv X pins σ H s) (e : H a = some (.ins C dx fs)) : ∃ ox od, PySem.W.InstAt s.heap a ox C od := by
  obtain ⟨mA, J, _⟩ := ins_get I.hok e
  obtain ⟨od, J, _⟩ := J.look
  exact ⟨_, _, J⟩
structure Spec1 (K : PySem.W.Frag) (C : Addr) (m : Str) (f : Addr) : Prop where
  at_ : PySem.W.findIn K (.ref C) m = some (some (.ref f))
  fn : PySem.W.isFn K (.ref f) = true
def rStrO (C : Addr) (sp : Sp) (E : XK) : List V → Hp → VK → Prop := fun xs H Q => ∃ a dx fs, xs = [.ref a] ∧ H a = some (.ins C dx fs) ∧ sp [.ref a] H (fun z H' => ∃ y, z = .str y ∧ Q z H') E
def rEqO (C : Addr) (sp : Sp) (E : XK) : R2 := fun x y H Q => ∃ a dx fs b dy gs, x = .ref a ∧ y = .ref b ∧ H a = some (.ins C dx fs) ∧ H b = some (.ins C dy gs) ∧ sp [x, y] H (fun z H' => ∃ c, z = .bl c ∧ Q z H') E
def rInO (C : Addr) (neg : Bool) (sp : Sp) (E : XK) : R2 := fun x y H Q => ∃ a dx fs, y = .ref a ∧ H a = some (.ins C dx fs) ∧ sp [y, x] H (fun z H' => ∃ c, z = .bl c ∧ Q (.bl (if neg then !c else c)) H') E
theorem op_notInO (S : Spec1 X.K C "__contains__" f) (F : FnOk X.prog X.w X.K X.mg X.base CX k f fd ps sp) (hr : Room k X.A) (hb : Binds X.K fd ps []) (hx : Passes CX X E) : OpR X (compareOp .NotIn) (rInO C true sp E) := by
  intro pins s σ H x y v u Q I rx ry h
  obtain ⟨a, dx, fs, rfl, ha, h⟩ := h
  cases ry
  obtain ⟨ox, od, J⟩ := inst_at I ha
  obtain ⟨m, hF⟩ := I.fr
  refine PySem.W.notIn_K hF I.ok.mod.kin J S.at_ S.fn (wpAny_mono (run_sub (dvs := []) (vs := [.ref a, x]) F ⟨hr, rfl⟩ hb .nil hx I (.cons rfl (.cons rx .nil)) h) (fun v s' hv => ?_) fun _ _ z => z)
  obtain ⟨z, H', I', rz, c, rfl, q⟩ := hv
  cases rz
  exact wpAny_truthy_bool ⟨.bl (!c), H', I', rfl, q⟩
end
end WB
namespace WB
open PySem PySem.Spec PyProof.Rows L2
def S (l : List Nat) : Str := ⟨l.toArray⟩
theorem S_cps (l : List Nat) : (S l).cps.toList = l := by simp [S]
theorem S_len (l : List Nat) : (S l).length = l.length := by simp [S, Str.length]
theorem S_app (a b : List Nat) : S a ++ S b = S (a ++ b) := by
  show Str.mk (a.toArray ++ b.toArray) = S (a ++ b)
  simp [S]
theorem S_inj {a b : List Nat} (h : S a = S b) : a = b := by
  have := congrArg (fun z : Str => z.cps.toList) h
  simpa [S] using this
theorem S_of (z : Str) : z = S z.cps.toList := by
  cases z
  simp [S]
def rAddI : R2 := rI0 fun i j => .int (i + j)
def rSubI : R2 := rI0 fun i j => .int (i - j)
def rMulI : R2 := rI CMul fun i j => .int (i * j)
def rDivI : R2 := rI CDiv fun i j => .int (i / j)
def rModI : R2 := rI (fun _ j => 0 < j) fun i j => .int (i % j)
def rPowI : R2 := rI CPow fun i j => .int (i ^ j.toNat)
def rLtI : R2 := rI0 fun i j => .bl (decide (i < j))
def rLeI : R2 := rI0 fun i j => .bl (decide (i ≤ j))
def rGtI : R2 := rI0 fun i j => .bl (decide (j < i))
def rGeI : R2 := rI0 fun i j => .bl (decide (j ≤ i))
def rNegI : V → Hp → VK → Prop := rU fun i => .int (-i)
def rLenV (K : PySem.W.Frag) : List V → Hp → VK → Prop := fun xs H Q => ∃ x n, xs = [x] ∧ LenV K x H n ∧ Q (.int n) H
def rAbsI : List V → Hp → VK → Prop := fun xs H Q => ∃ i, xs = [.int i] ∧ Q (.int (if i < 0 then -i else i)) H
def rIntI : List V → Hp → VK → Prop := fun xs H Q => (∃ i, xs = [.int i] ∧ Q (.int i) H) ∨ ∃ k, xs = [.bl k] ∧ Q (.int (if k then 1 else 0)) H
def rMin2 : List V → Hp → VK → Prop := fun xs H Q => ∃ i j, xs = [.int i, .int j] ∧ Q (.int (if j < i then j else i)) H
def rMax2 : List V → Hp → VK → Prop := fun xs H Q => ∃ i j, xs = [.int i, .int j] ∧ Q (.int (if j > i then j else i)) H
def rDivmod : List V → Hp → VK → Prop := fun xs H Q => ∃ i j, xs = [.int i, .int j] ∧ CDivP i j ∧ ∀ p, H p = none → Q (.ref p) (upd H p (.tup [.int (i / j), .int (i % j)]))
def rInSg : R2 := fun x y H Q => ∃ (c : Nat) (z : Str), x = .str ⟨#[c]⟩ ∧ y = .str z ∧ Q (.bl (decide (c ∈ z.cps.toList))) H
def rNotInSg : R2 := fun x y H Q => ∃ (c : Nat) (z : Str), x = .str ⟨#[c]⟩ ∧ y = .str z ∧ Q (.bl (!decide (c ∈ z.cps.toList))) H
def rIsN1 : R2 := fun x y H Q => y = .non ∧ Q (.bl (decide (x = .non))) H
def rNotN1 : R2 := fun x y H Q => y = .non ∧ Q (.bl (!decide (x = .non))) H
def rListOf (K : PySem.W.Frag) : List V → Hp → VK → Prop := fun xs H Q => ∃ p ys, xs = [.ref p] ∧ (SqL K H p ys ∨ SqT K H p ys) ∧ ∀ l, H l = none → Q (.ref l) (upd H l (.lst ys))
def rJoin (K : PySem.W.Frag) : V → List V → Hp → VK → Prop := fun x xs H Q => ∃ a p, ∃ ys : List Str, x = .str a ∧ xs = [.ref p] ∧ (SqL K H p (ys.map V.str) ∨ SqT K H p (ys.map V.str)) ∧
      (ys.map (·.length)).sum + ys.length * a.length ≤ 16777216 ∧ Q (.str (Txt.join a ys)) H
section
variable {X : Cx}
theorem pe_globI {x : Str} {i : Int} {pos : Pos} (hg : Gl X x) (hm : ∃ t, X.mg x = some (.int i t)) (hd : (x == ("__debug__" : Str)) = false := by decide) : PE X (.Name x pos) (tC (.int i)) := by
  obtain ⟨t, h⟩ := hm
  exact pe_glob hg h ⟨t, rfl⟩ hd
theorem pe_globS {x z : Str} {pos : Pos} (hg : Gl X x) (hm : ∃ t, X.mg x = some (.str z t)) (hd : (x == ("__debug__" : Str)) = false := by decide) : PE X (.Name x pos) (tC (.str z)) := by
  obtain ⟨t, h⟩ := hm
  exact pe_glob hg h ⟨t, rfl⟩ hd
def rAddS : R2 := fun x y H Q => ∃ a b, x = .str (S a) ∧ y = .str (S b) ∧ a.length + b.length ≤ sizeLine ∧ Q (.str (S (a ++ b))) H
theorem op_addS : OpR X (binaryOp .Add) rAddS := by
  intro pins s σ H x y v u Q I rx ry h
  obtain ⟨a, b, rfl, rfl, hl, q⟩ := h
  exact op_add_str pins s σ H _ _ v u Q I rx ry ⟨_, _, rfl, rfl, by rw [S_len, S_len]; exact hl, by rw [S_app]; exact q⟩
def rMulS : R2 := fun x y H Q => ∃ (a : List Nat) (k : Nat), x = .str (S a) ∧ y = .int k ∧ k ≤ 100000 ∧ a.length * k ≤ 100000 ∧ Q (.str (S (List.replicate k a).flatten)) H
theorem fold_app (a : Array Nat) : ∀ (k : Nat) (b : Array Nat), ((List.replicate k a).foldl (· ++ ·) b).toList = b.toList ++ (List.replicate k a.toList).flatten
  | 0, b => by simp
  | k + 1, b => by
    rw [List.replicate_succ, List.foldl_cons, fold_app a k, List.replicate_succ]
    simp
theorem op_mulS : OpR X (binaryOp .Mult) rMulS := by
  intro pins s σ H x y v u Q I rx ry h
  obtain ⟨a, k, rfl, rfl, hk, hl, q⟩ := h
  obtain ⟨t, rfl⟩ := rx
  obtain ⟨t', rfl⟩ := ry
  have b1 : decide ((k : Int) < -(2 ^ 63 : Int)) = false := decide_eq_false (by omega)
  have b2 : decide ((k : Int) ≥ 2 ^ 63) = false := decide_eq_false (by omega)
  refine PySem.P.mul_str (by rw [b1, b2]; rfl) (fun h1 _ => ?_) (fun h1 _ => ?_) ?_
  · have h2 : (1 : Int) ≤ k := by omega
    have : ((S a).length : Int) * k ≤ 2 ^ 63 - 1 := by
      rw [S_len]
      have h4 : ((a.length * k : Nat) : Int) ≤ ((100000 : Nat) : Int) := Int.ofNat_le.mpr hl
      rw [Int.natCast_mul] at h4
      generalize (a.length : Int) * (k : Int) = z at *
      omega
    intro hc
    have h3 : ((S a).length : Int) ≤ (2 ^ 63 - 1) / (k : Int) := (Int.le_ediv_iff_mul_le (by omega)).mpr this
    omega
  · show PySem.Builtin.Str.tooLong ((S a).length * (k : Int).toNat) = false
    rw [S_len, Int.toNat_natCast]
    have : a.length * k ≤ sizeLine := Nat.le_trans hl (by decide)
    unfold PySem.Builtin.Str.tooLong
    simpa using this
  · by_cases h0 : (k : Int) < 1
    · have e : k = 0 := by omega
      subst e
      rw [if_pos h0]
      exact ⟨by decide, .str Str.empty, H, I.tok _, ⟨_, rfl⟩, q⟩
    · rw [if_neg h0]
      by_cases h1 : ((k : Int) == 1 || (S a).length == 0) = true
      · rw [if_pos h1]
        have e : (List.replicate k a).flatten = a := by
          rw [Bool.or_eq_true] at h1
          rcases h1 with h1 | h1
          · have e : k = 1 := by have := beq_iff_eq.mp h1; omega
            subst e
            simp
          · have e : a = [] := by
              have := beq_iff_eq.mp h1
              rw [S_len] at this
              exact List.length_eq_zero_iff.mp this
            subst e
            simp
        rw [e] at q
        exact ⟨.str (S a), H, I, ⟨_, rfl⟩, q⟩
      · rw [if_neg h1]
        have e : (⟨(List.replicate (k : Int).toNat (S a).cps).foldl (· ++ ·) #[]⟩ : Str) = S (List.replicate k a).flatten := by
          rw [S_of ⟨_⟩, fold_app]
          simp [S_cps]
        rw [e]
        refine ⟨?_, .str _, H, I.tok _, ⟨_, rfl⟩, q⟩
        rw [S_len]
        have : (List.replicate k a).flatten.length = a.length * k := by simp [Nat.mul_comm]
        rw [this]
        exact Nat.le_trans hl (by decide)
end
end WB
namespace WB
open PySem PySem.Spec PyProof.Rows L2
def minL (x : List Nat) (xs : List (List Nat)) : List Nat := xs.foldl (fun a y => if decide (y < a) = true then y else a) x
abbrev vS (l : List Nat) : V := .str (S l)
def rMinS (K : PySem.W.Frag) : List V → Hp → VK → Prop := fun vs H Q => ∃ (a : Addr) (x : List Nat) (xs : List (List Nat)), vs = [.ref a] ∧ SqL K H a ((x :: xs).map vS) ∧ Q (vS (minL x xs)) H
section
variable {X : Cx}
theorem minOf_S : ∀ (xs : List (List Nat)) (x : List Nat), PySem.W.minOf (S x) (xs.map S) = S (minL x xs)
  | [], x => rfl
  | y :: ys, x => by
    show PySem.W.minOf (if PySem.W.DatumOrd.lt (S y) (S x) = true then S y else S x) (ys.map S) = S (minL (if decide (y < x) = true then y else x) ys)
    have e : PySem.W.DatumOrd.lt (S y) (S x) = decide (y < x) := by
      show decide ((S y).cps.toList < (S x).cps.toList) = decide (y < x)
      rw [S_cps, S_cps]
    rw [e]
    by_cases h : decide (y < x) = true
    · rw [if_pos h, if_pos h]; exact minOf_S ys y
    · rw [if_neg h, if_neg h]; exact minOf_S ys x
theorem cr_minS (hc : X.calm = true) (hu : X.A.units + 64 < cLine) : CallR X (.builtin "min") (rMinS X.K) := by
  intro pins s σ H vs us Q I r h
  obtain ⟨a, x, xs, rfl, hs, q⟩ := h
  obtain ⟨its, rv, hl, _⟩ := I.list hs
  rw [Vals.ref1 r]
  have hst : StrsAre its ((x :: xs).map S) := by
    have e : ((x :: xs).map vS) = (((x :: xs).map S).map V.str) := by rw [List.map_map]; rfl
    rw [e] at rv
    exact strsAre_of rv
  refine PySem.W.min_list_datum (α := Str) (x := S x) (xs := xs.map S) (I.ok.hd hc) hl.isList (by
    have := PySem.W.HoldAll.of_strs (h := s.heap) hst
    simpa using this) ?_ fun i v h' tk hv hh hk => ?_
  · show X.A.units + 1 + PySem.W.Datum.depth Str < cLine
    have : PySem.W.Datum.depth Str = 0 := rfl
    omega
  · rw [minOf_S] at hh
    obtain ⟨bs, rd⟩ := hh
    have rd : Reads h' v (.str (S (minL x xs))) bs := rd
    cases rd
    exact ⟨.str _, H, I.kept hk, ⟨_, rfl⟩, q⟩
def tRevS (te : TE) : TE := fun σ H Q => te σ H fun x H1 => ∃ l : List Nat, x = vS l ∧ l.length ≤ sizeLine ∧ Q (vS l.reverse) H1
theorem rev_made (l : List Nat) (u : Tok) : Txt.sliceBy (S l) none none (-1, u) = S l.reverse := by
  rw [S_of (Txt.sliceBy (S l) none none (-1, u)), step_rev_list]
  congr 1
  rw [S_len]
  apply List.ext_getElem
  · simp
  · intro i h1 h2
    have h3 : i < l.length := by simpa using h1
    simp only [List.getElem_map, List.getElem_range, List.getElem_reverse]
    have e : (S l).cps = l.toArray := rfl
    rw [e, Array.getD_eq_getD_getElem?]
    simp [show l.length - 1 - i < l.length by omega]
theorem pe_revS {e : Expr} {te : TE} {k : Nat} {p1 p2 p3 pos : Pos} (he : PE X e te) : PE X (.Subscript e (.Slice none none (some (.UnaryOp .USub (.Constant (.int 1) k p1) p2)) p3) pos) (tRevS te) := by
  refine ⟨fun pins s σ H Q I h => ?_⟩
  refine Subscript_ (thn (he.run pins s σ H _ I h) fun v s1 ⟨x, H1, I1, r1, q1⟩ => ?_)
  obtain ⟨l, ex, hz, q⟩ := q1
  subst ex
  obtain ⟨t, rfl⟩ := r1
  have hst : PO X (some (.UnaryOp .USub (.Constant (.int 1) k p1) p2)) (tPart (tUn (rU fun i => .int (-i)) (tC (.int 1)))) := po_some (pe_un un_neg pe_int)
  refine wpAny_Slice (thn (po_none.run pins s1 σ H1 (fun o H2 => o = none ∧ H2 = H1) I1 ⟨rfl, rfl⟩) fun vl s2 ⟨lo, H2, I2, pl, el, e2⟩ => ?_)
  subst el e2
  refine thn (po_none.run pins s2 σ H2 (fun o H3 => o = none ∧ H3 = H2) I2 ⟨rfl, rfl⟩) fun vu s3 ⟨u, H3, I3, pu, eu, e3⟩ => ?_
  subst eu e3
  refine thn (hst.run pins s3 σ H3 (fun o H4 => o = some (-1) ∧ H4 = H3) I3 ⟨1, rfl, -1, rfl, rfl, rfl⟩) fun vs s4 ⟨o, H4, I4, ps, eo, e4⟩ => ?_
  subst eo e4
  have I5 : Inv X pins σ H4 { s4 with heap := s4.heap.push { cls := .type "slice", data := .fields #[vl, vu, vs] } } := I4.kept (t' := s4.toks) fun b ob q => Heap.get?_push_of_some _ q
  show wpAny (model X.prog X.w) X.A (subscriptTail e (.Slice none none (some (.UnaryOp .USub (.Constant (.int 1) k p1) p2)) p3) (.str (S l) t) (.ref s4.heap.objs.size)) (EP X pins σ Q) X.xe { s4 with heap := s4.heap.push { cls := .type "slice", data := .fields #[vl, vu, vs] } }
  obtain ⟨l1, rfl, e1⟩ := IsPart.raw pl
  obtain ⟨u1, rfl, e2⟩ := IsPart.raw pu
  obtain ⟨t1, rfl, e3⟩ := IsPart.raw ps
  cases l1 with
  | some z => cases e1
  | none =>
  cases u1 with
  | some z => cases e2
  | none =>
  cases t1 with
  | none => cases e3
  | some z =>
  obtain ⟨zi, zt⟩ := z
  have ez : zi = -1 := by simpa using e3
  subst ez
  refine tail_any (ops := [.str (S l) t, .ref s4.heap.objs.size]) (typeIs_str _ _ _) (F.slot_str_getitem.lookup) ?_ (by with_unfolding_all rfl)
  refine wpAny_getItem_str_slice (l := none) (u := none) (st := some (-1, zt)) (Heap.IsSliceOf.new _ _ _ _) rfl ?_
  have e5 : sliceMade (S l) t none none (some (-1, zt)) = Made.str (Txt.sliceBy (S l) none none (-1, zt)) := by
    rfl
  rw [e5, rev_made]
  refine ⟨?_, vS l.reverse, H4, I5.tok _, ⟨_, rfl⟩, q⟩
  rw [S_len, List.length_reverse]
  exact hz
variable {CX : CXT} {k : Nat} {f C : Addr} {fd : FuncData} {ps : List Str} {sp : Sp} {E : XK}
end
end WB
namespace WB
open PySem PySem.Spec PyProof.Rows L2
abbrev St := L2.St
def Ex (m : List Addr) (H H' : Hp) : Prop := ∀ b o, b ∉ m → H b = some o → H' b = some o
section
variable {m m' : List Addr} {H H' H1 H2 : Hp} {a p : Addr} {o u : HO} {K : PySem.W.Frag} {xs : List V}
theorem Ex.rfl : Ex m H H := fun _ _ _ h => h
theorem Ex.trans (a : Ex m H H1) (b : Ex m H1 H2) : Ex m H H2 := fun x o n h => b x o n (a x o n h)
theorem Ex.snoc (b : Ex m H1 H2) (a : Ex m H H1) : Ex m H H2 := a.trans b
theorem Ex.wide (e : Ex [] H H') : Ex m H H' := fun b o _ h => e b o (by simp) h
theorem Ex.snocW (b : Ex [] H1 H2) (a : Ex m H H1) : Ex m H H2 := a.trans b.wide
theorem Ex.new (h : H p = none) : Ex m H (upd H p o) := fun a u _ e => by rw [upd_ne (ne_of_none e h)]; exact e
theorem Ex.put (hp : p ∈ m) : Ex m H (upd H p o) := fun a u n e => by rw [upd_ne (fun z => n (by rw [z]; exact hp))]; exact e
theorem Ex.get (e : Ex m H H') (n : a ∉ m) (h : H a = some o) : H' a = some o := e a o n h
theorem Ex.get0 (e : Ex [] H H') (h : H a = some o) : H' a = some o := e a o (by simp) h
theorem Ex.rd (e : Ex m H H') (n : a ∉ m) (h : Rd H a u) : Rd H' a u := by
  rcases h with h | ⟨ob, h⟩
  · exact .inl (e a _ n h)
  · exact .inr ⟨ob, e a _ n h⟩
theorem Ex.sqL (e : Ex m H H') (n : a ∉ m) (h : SqL K H a xs) : SqL K H' a xs := by
  rcases h with h | h
  · exact .inl (e.rd n h)
  · exact .inr h
theorem Ex.sqT (e : Ex m H H') (n : a ∉ m) (h : SqT K H a xs) : SqT K H' a xs := by
  rcases h with h | h
  · exact .inl (e.rd n h)
  · exact .inr h
theorem Ex.free (e : Ex [] H H') (h : H' p = none) : H p = none := by
  cases q : H p with
  | none => rfl
  | some o => rw [e p o (by simp) q] at h; cases h
end
def rep (k : Nat) (l : List Nat) : List Nat := (List.replicate k l).flatten
def FldG (K : PySem.W.Frag) (f : Str) (x : V) (H : Hp) (Q : VK) : Prop := ∃ a C dx fs v, x = .ref a ∧ H a = some (.ins C dx fs) ∧ Cls K C ∧ NoAttr K C f ∧ fs.lookup f = some v ∧ Q v H
def PropG (C : Addr) (sp : Sp) (dvs : List V) (E : XK) (x : V) (H : Hp) (Q : VK) : Prop := ∃ a dx fs, x = .ref a ∧ H a = some (.ins C dx fs) ∧ sp (.ref a :: dvs) H Q E
def MakeG (C : Addr) (sp : Sp) (dvs : List V) (E : XK) (vs : List V) (H1 : Hp) (Q : VK) : Prop := ∀ x dx, H1 x = none → H1 dx = none → dx ≠ x → sp (.ref x :: (vs ++ dvs)) (upd (upd H1 dx (.own x)) x (.ins C dx [])) (fun v H2 => v = .non ∧ Q (.ref x) H2) E
def MethG (C : Addr) (m : Str) (sp : Sp) (dvs : List V) (E : XK) (t : TA) (σ : St) (x : V) (H1 : Hp) (Q : VK) : Prop := ∃ a dx fs, x = .ref a ∧ H1 a = some (.ins C dx fs) ∧ fs.lookup m = none ∧ t σ H1 fun vs H2 => sp (x :: (vs ++ dvs)) H2 Q E
def RevG (x : V) (H : Hp) (Q : VK) : Prop := ∃ l : List Nat, x = vS l ∧ l.length ≤ sizeLine ∧ Q (vS l.reverse) H
def SetG (K : PySem.W.Frag) (f : Str) (y x : V) (H : Hp) (R : Hp → Prop) : Prop := ∃ a C dx fs, x = .ref a ∧ H a = some (.ins C dx fs) ∧ Cls K C ∧ NoAttr K C f ∧ fs.length < 1000 ∧ R (upd H a (.ins C dx (putF f y fs)))
def Al (o : HO) (n : Nat) (H : Hp) (Q : VK) : Prop := n ≤ sizeLine ∧ ∀ p, H p = none → Q (.ref p) (upd H p o)
section
variable {σ : St} {H : Hp} {Q : VK} {ta tb tc te : TE} {t u : TT} {tr : TA} {v x y : V} {r r' : R2} {i : Nat} {K : PySem.W.Frag} {R : Bool → Hp → Prop} {A B : Prop}
theorem s_var (h : σ[i]? = some (some v)) (k : Q v H) : tVar i σ H Q := ⟨v, h, k⟩
theorem s_c (k : Q v H) : tC v σ H Q := k
theorem s_cS {z : Str} {l : List Nat} (e : z = S l) (k : Q (vS l) H) : tC (.str z) σ H Q := by rw [e]; exact k
theorem s_op (k : ta σ H fun x H1 => tb σ H1 fun y H2 => r x y H2 Q) : tOp r ta tb σ H Q := k
theorem s_un {r : V → Hp → VK → Prop} (k : ta σ H fun x H1 => r x H1 Q) : tUn r ta σ H Q := k
theorem s_cb {r : List V → Hp → VK → Prop} (k : tr σ H fun vs H1 => r vs H1 Q) : tCB r tr σ H Q := k
theorem s_nil {R : List V → Hp → Prop} (k : R [] H) : tNil σ H R := k
theorem s_cons {R : List V → Hp → Prop} (k : ta σ H fun x H1 => tr σ H1 fun xs H2 => R (x :: xs) H2) : tCons ta tr σ H R := k
theorem s_call {sp : Sp} {dvs : List V} {E : XK} (k : tr σ H fun vs H1 => sp (vs ++ dvs) H1 Q E) : tCall sp dvs E tr σ H Q := k
theorem s_tup (k : tr σ H fun xs H1 => Al (.tup xs) xs.length H1 Q) : tTup tr σ H Q := k
theorem s_lst (k : tr σ H fun xs H1 => Al (.lst xs) xs.length H1 Q) : tLst tr σ H Q := k
theorem s_alloc {n : Nat} {o : HO} (h : n ≤ sizeLine) (k : ∀ p H2, H p = none → Ex [] H H2 → H2 p = some o → Q (.ref p) H2) : Al o n H Q :=
  ⟨h, fun p hp => k p _ hp (Ex.new hp) upd_same⟩
theorem s_new {o : HO} (k : ∀ p H2, H p = none → Ex [] H H2 → H2 p = some o → Q (.ref p) H2) : ∀ p, H p = none → Q (.ref p) (upd H p o) :=
  fun p hp => k p _ hp (Ex.new hp) upd_same
theorem s_not (k : t σ H fun c H1 => R (!c) H1) : tNot t σ H R := k
theorem s_and (k : t σ H fun c H1 => if c = true then u σ H1 R else R false H1) : tAnd t u σ H R := k
theorem s_or (k : t σ H fun c H1 => if c = true then R true H1 else u σ H1 R) : tOr t u σ H R := k
theorem s_test (k : te σ H fun x H' => ∃ k, x = .bl k ∧ R k H') : tTest te σ H R := k
theorem s_tB (k : te σ H fun x H' => ∃ k, x = .bl k ∧ R k H') : tB te σ H R := k
theorem s_blQ {b : Bool} {P : Bool → Prop} (k : P b) : ∃ c, V.bl b = .bl c ∧ P c := ⟨b, rfl, k⟩
theorem s_andV (k : ta σ H fun x H1 => ∃ c, x = .bl c ∧ if c = true then tb σ H1 Q else Q (.bl false) H1) : tAndV ta tb σ H Q := k
theorem s_orV (k : ta σ H fun x H1 => ∃ c, x = .bl c ∧ if c = true then Q (.bl true) H1 else tb σ H1 Q) : tOrV ta tb σ H Q := k
theorem s_notV (k : ta σ H fun x H1 => ∃ c, x = .bl c ∧ Q (.bl (!c)) H1) : tNotV ta σ H Q := k
theorem s_ifE (k : t σ H fun c H1 => if c = true then ta σ H1 Q else tb σ H1 Q) : tIf t ta tb σ H Q := k
theorem s_yes (k : R true H) : tYes σ H R := k
theorem s_chain (k : ta σ H fun x H1 => tb σ H1 fun y H2 => r x y H2 fun z H3 => ∃ k, z = .bl k ∧ (if k = true then tc σ H3 fun w' H4 => r' y w' H4 Q else Q (.bl false) H3)) : tChain r r' ta tb tc σ H Q := k
theorem s_T {b : Bool} (h : b = true) (k : A) : if b = true then A else B := by rw [if_pos h]; exact k
theorem s_F {b : Bool} (h : b = false) (k : B) : if b = true then A else B := by rw [if_neg (by rw [h]; decide)]; exact k
theorem s_2 {b : Bool} (k1 : b = true → A) (k2 : b = false → B) : if b = true then A else B := by
  cases b with
  | true => exact s_T rfl (k1 rfl)
  | false => exact s_F rfl (k2 rfl)
theorem s_nT (k : B) : if (!true) = true then A else B := s_F rfl k
theorem s_nF (k : A) : if (!false) = true then A else B := s_T rfl k
theorem s_Td {P : Prop} [Decidable P] (h : P) (k : A) : if decide P = true then A else B := s_T (decide_eq_true h) k
theorem s_Fd {P : Prop} [Decidable P] (h : ¬ P) (k : B) : if decide P = true then A else B := s_F (decide_eq_false h) k
theorem s_nTd {P : Prop} [Decidable P] (h : ¬ P) (k : A) : if (!decide P) = true then A else B := s_T (by rw [decide_eq_false h]; rfl) k
theorem s_nFd {P : Prop} [Decidable P] (h : P) (k : B) : if (!decide P) = true then A else B := s_F (by rw [decide_eq_true h]; rfl) k
theorem s_nB {b : Bool} (h : b = true) (k : B) : if (!b) = true then A else B := s_F (by rw [h]; rfl) k
theorem s_nA {b : Bool} (h : b = false) (k : A) : if (!b) = true then A else B := s_T (by rw [h]; rfl) k
theorem s_addI {i j : Int} (k : Q (.int (i + j)) H) : rAddI (.int i) (.int j) H Q := ⟨i, j, rfl, rfl, k⟩
theorem s_subI {i j : Int} (k : Q (.int (i - j)) H) : rSubI (.int i) (.int j) H Q := ⟨i, j, rfl, rfl, k⟩
theorem s_mulI {i j : Int} (h : CMul i j) (k : Q (.int (i * j)) H) : rMulI (.int i) (.int j) H Q := ⟨i, j, rfl, rfl, h, k⟩
theorem s_divI {i j : Int} (h : CDiv i j) (k : Q (.int (i / j)) H) : rDivI (.int i) (.int j) H Q := ⟨i, j, rfl, rfl, h, k⟩
theorem s_modI {i j : Int} (h : 0 < j) (k : Q (.int (i % j)) H) : rModI (.int i) (.int j) H Q := ⟨i, j, rfl, rfl, h, k⟩
theorem s_powI {i j : Int} (h : CPow i j) (k : Q (.int (i ^ j.toNat)) H) : rPowI (.int i) (.int j) H Q := ⟨i, j, rfl, rfl, h, k⟩
theorem s_ltI {i j : Int} (k : Q (.bl (decide (i < j))) H) : rLtI (.int i) (.int j) H Q := ⟨i, j, rfl, rfl, k⟩
theorem s_leI {i j : Int} (k : Q (.bl (decide (i ≤ j))) H) : rLeI (.int i) (.int j) H Q := ⟨i, j, rfl, rfl, k⟩
theorem s_gtI {i j : Int} (k : Q (.bl (decide (j < i))) H) : rGtI (.int i) (.int j) H Q := ⟨i, j, rfl, rfl, k⟩
theorem s_geI {i j : Int} (k : Q (.bl (decide (j ≤ i))) H) : rGeI (.int i) (.int j) H Q := ⟨i, j, rfl, rfl, k⟩
theorem s_negI {i : Int} (k : Q (.int (-i)) H) : rNegI (.int i) H Q := ⟨i, rfl, k⟩
theorem s_absI {i : Int} (k : Q (.int (if i < 0 then -i else i)) H) : rAbsI [.int i] H Q := ⟨i, rfl, k⟩
theorem s_intI {i : Int} (k : Q (.int i) H) : rIntI [.int i] H Q := .inl ⟨i, rfl, k⟩
theorem s_min2 {i j : Int} (k : Q (.int (if j < i then j else i)) H) : rMin2 [.int i, .int j] H Q := ⟨i, j, rfl, k⟩
theorem s_max2 {i j : Int} (k : Q (.int (if j > i then j else i)) H) : rMax2 [.int i, .int j] H Q := ⟨i, j, rfl, k⟩
theorem s_addS {a b : List Nat} (h : a.length + b.length ≤ sizeLine) (k : Q (vS (a ++ b)) H) : rAddS (vS a) (vS b) H Q := ⟨a, b, rfl, rfl, h, k⟩
theorem s_mulS {a : List Nat} {n : Int} (h0 : 0 ≤ n) (h1 : n ≤ 100000) (h2 : a.length * n.toNat ≤ 100000) (k : Q (vS (rep n.toNat a)) H) : rMulS (vS a) (.int n) H Q :=
  ⟨a, n.toNat, rfl, by rw [Int.toNat_of_nonneg h0], by omega, h2, k⟩
theorem s_eqI {i j : Int} (k : Q (.bl (decide (i = j))) H) : rEq (.int i) (.int j) H Q := ⟨rfl, by
  have : decide (V.int i = V.int j) = decide (i = j) := by simp
  rw [this]; exact k⟩
theorem s_neI {i j : Int} (k : Q (.bl (!decide (i = j))) H) : rNe (.int i) (.int j) H Q := ⟨rfl, by
  have : decide (V.int i = V.int j) = decide (i = j) := by simp
  rw [this]; exact k⟩
theorem vS_eq {a b : List Nat} : (vS a = vS b) ↔ a = b := ⟨fun h => S_inj (V.str.inj h), fun h => by rw [h]⟩
theorem s_eqS {a b : List Nat} (k : Q (.bl (decide (a = b))) H) : rEq (vS a) (vS b) H Q := ⟨rfl, by
  have : decide (V.str (S a) = V.str (S b)) = decide (a = b) := by simp only [show (V.str (S a) = V.str (S b)) ↔ a = b from vS_eq]
  rw [this]; exact k⟩
theorem s_neS {a b : List Nat} (k : Q (.bl (!decide (a = b))) H) : rNe (vS a) (vS b) H Q := ⟨rfl, by
  have : decide (V.str (S a) = V.str (S b)) = decide (a = b) := by simp only [show (V.str (S a) = V.str (S b)) ↔ a = b from vS_eq]
  rw [this]; exact k⟩
theorem s_inSg {c : Nat} {l : List Nat} (k : Q (.bl (decide (c ∈ l))) H) : rInSg (vS [c]) (vS l) H Q := ⟨c, S l, rfl, rfl, by rw [S_cps]; exact k⟩
theorem s_notInSg {c : Nat} {l : List Nat} (k : Q (.bl (!decide (c ∈ l))) H) : rNotInSg (vS [c]) (vS l) H Q := ⟨c, S l, rfl, rfl, by rw [S_cps]; exact k⟩
theorem s_lenS {l : List Nat} (h : l.length ≤ sizeLine) (k : Q (.int l.length) H) : rLenV K [vS l] H Q := ⟨vS l, l.length, rfl, ⟨by rw [S_len]; exact h, (S_len l).symm⟩, k⟩
theorem s_lenL {a : Addr} {xs : List V} (h : SqL K H a xs) (k : Q (.int xs.length) H) : rLenV K [.ref a] H Q := ⟨_, _, rfl, .inl ⟨xs, h, rfl⟩, k⟩
theorem s_lenT {a : Addr} {xs : List V} (h : SqT K H a xs) (k : Q (.int xs.length) H) : rLenV K [.ref a] H Q := ⟨_, _, rfl, .inr ⟨xs, h, rfl⟩, k⟩
theorem s_isiII {i : Int} (k : Q (.bl true) H) : rIsi K [.int i, .ty "int"] H Q := ⟨_, _, _, _, _, rfl, .ty _, .base (.int _), kit_ty (by decide +kernel), k⟩
theorem s_isiIB {i : Int} (k : Q (.bl false) H) : rIsi K [.int i, .ty "bool"] H Q := ⟨_, _, _, _, _, rfl, .ty _, .base (.int _), kit_ty (by decide +kernel), k⟩
theorem s_isiSS {z : Str} (k : Q (.bl true) H) : rIsi K [.str z, .ty "str"] H Q := ⟨_, _, _, _, _, rfl, .ty _, .base (.str _), kit_ty (by decide +kernel), k⟩
theorem s_all {a : Addr} {bs : List Bool} (h : SqL K H a (bs.map V.bl)) (k : Q (.bl (bs.all id)) H) : rAll K [.ref a] H Q := ⟨a, bs, rfl, h, k⟩
theorem s_cat {a b : Addr} {xs ys : List V} (h1 : H a = some (.lst xs)) (h2 : H b = some (.lst ys)) (hl : xs.length + ys.length ≤ sizeLine) (k : ∀ p H2, H p = none → Ex [] H H2 → H2 p = some (.lst (xs ++ ys)) → Q (.ref p) H2) : rCat (.ref a) (.ref b) H Q := ⟨a, b, xs, ys, rfl, rfl, h1, h2, hl, s_new k⟩
theorem s_divmod {i j : Int} (h : CDivP i j) (k : ∀ p H2, H p = none → Ex [] H H2 → H2 p = some (.tup [.int (i / j), .int (i % j)]) → Q (.ref p) H2) : rDivmod [.int i, .int j] H Q := ⟨i, j, rfl, h, s_new k⟩
theorem s_ixL {a : Addr} {xs : List V} {n : Int} (h : SqL K H a xs) (hi : atI xs n = some v) (k : Q v H) : rIxL K (.ref a) (.int n) H Q := ⟨a, xs, n, v, rfl, rfl, h, hi, k⟩
theorem s_ixT {a : Addr} {xs : List V} {n : Int} (h : SqT K H a xs) (hi : atI xs n = some v) (k : Q v H) : rIxT K (.ref a) (.int n) H Q := ⟨a, xs, n, v, rfl, rfl, h, hi, k⟩
theorem s_ixS {l : List Nat} {n : Int} {c : Nat} (hl : l.length ≤ sizeLine) (hi : atI l n = some c) (k : Q (vS [c]) H) : rIxS (vS l) (.int n) H Q := ⟨S l, n, c, rfl, rfl, by rw [S_len]; exact hl, by rw [S_cps]; exact hi, k⟩
theorem s_minS {a : Addr} {x : List Nat} {xs : List (List Nat)} (h : SqL K H a ((x :: xs).map vS)) (k : Q (vS (minL x xs)) H) : rMinS K [.ref a] H Q := ⟨a, x, xs, rfl, h, k⟩
theorem s_revS (k : te σ H fun x H1 => RevG x H1 Q) : tRevS te σ H Q := k
theorem s_revS1 {l : List Nat} (h : l.length ≤ sizeLine) (k : Q (vS l.reverse) H) : RevG (vS l) H Q := ⟨l, rfl, h, k⟩
def cut (l : List Nat) (lo hi : Option Int) : List Nat := (l.drop (HT.sIx l.length 0 lo)).take (HT.sIx l.length l.length hi - HT.sIx l.length 0 lo)
theorem s_sl {r : V → Option Int → Option Int → Hp → VK → Prop} {tl th : TO} (k : te σ H fun x H1 => tl σ H1 fun l H2 => th σ H2 fun u H3 => r x l u H3 Q) : tSl r te tl th σ H Q := k
theorem s_noPart {R : Option Int → Hp → Prop} (k : R none H) : tNoPart σ H R := k
theorem s_part {R : Option Int → Hp → Prop} (k : te σ H fun x H1 => ∃ i, x = .int i ∧ R (some i) H1) : tPart te σ H R := k
theorem s_int1 {n : Int} {P : Int → Prop} (k : P n) : ∃ i, V.int n = .int i ∧ P i := ⟨n, rfl, k⟩
theorem s_slS {l : List Nat} {lo hi : Option Int} (h : l.length ≤ sizeLine) (k : Q (vS (cut l lo hi)) H) : rSlS (vS l) lo hi H Q := ⟨S l, rfl, by rw [S_len]; exact h, by
  have e : cutS (S l) lo hi = S (cut l lo hi) := by
    unfold cutS cut
    rw [S_len, S_cps]
    rfl
  rw [e]
  exact k⟩
theorem s_slL {a : Addr} {xs : List V} {lo hi : Option Int} (h : SqL K H a xs) (k : ∀ p H2, H p = none → Ex [] H H2 → H2 p = some (.lst (cutV xs lo hi)) → Q (.ref p) H2) : rSlL K (.ref a) lo hi H Q := ⟨a, xs, rfl, h, s_new k⟩
theorem cut_from {l : List Nat} {n : Int} (h0 : 0 ≤ n) : cut l (some n) none = l.drop n.toNat := by
  unfold cut
  have e : HT.sIx l.length 0 (some n) = min n.toNat l.length := by
    show (if n < 0 then (n + (l.length : Int)).toNat else min n.toNat l.length) = _
    rw [if_neg (by omega)]
  have e2 : HT.sIx l.length l.length none = l.length := rfl
  rw [e, e2]
  rcases Nat.le_total n.toNat l.length with h | h
  · rw [Nat.min_eq_left h, List.take_of_length_le (by simp)]
  · rw [Nat.min_eq_right h, List.drop_of_length_le h]
    simp
theorem cut_to {l : List Nat} {n : Int} (h0 : 0 ≤ n) : cut l none (some n) = l.take n.toNat := by
  unfold cut
  have e : HT.sIx l.length l.length (some n) = min n.toNat l.length := by
    show (if n < 0 then (n + (l.length : Int)).toNat else min n.toNat l.length) = _
    rw [if_neg (by omega)]
  have e2 : HT.sIx l.length 0 none = 0 := rfl
  rw [e, e2]
  rcases Nat.le_total n.toNat l.length with h | h
  · rw [Nat.min_eq_left h]; simp
  · rw [Nat.min_eq_right h, List.take_of_length_le h]; simp
theorem s_M1 {r : V → List V → Hp → VK → Prop} (k : ta σ H fun x H1 => (∃ a, x = .str a) ∧ te σ H1 fun y H2 => r x [y] H2 Q) : tM1 r ta te σ H Q := k
theorem s_isStr {z : Str} {B : Prop} (k : B) : (∃ a, V.str z = .str a) ∧ B := ⟨⟨z, rfl⟩, k⟩
theorem joinL_nil : ∀ ls : List (List Nat), TL.joinL [] ls = ls.flatten
  | [] => rfl
  | [p] => by simp [TL.joinL]
  | p :: q :: r => by
    show p ++ ([] ++ TL.joinL [] (q :: r)) = _
    rw [joinL_nil (q :: r)]
    simp
theorem join_empty (ls : List (List Nat)) : Txt.join (S []) (ls.map S) = S ls.flatten := by
  rw [TL.join_eq, S_of (Str.join (S []) (ls.map S))]
  have := TL.tl_join (S []) (ls.map S)
  unfold TL.tl at this
  rw [this, List.map_map]
  have e : ls.map ((fun x : Str => x.cps.toList) ∘ S) = ls := by
    conv => rhs; rw [← List.map_id ls]
    apply List.map_congr_left
    intro z _
    exact S_cps z
  show S (TL.joinL (S []).cps.toList (ls.map ((fun x : Str => x.cps.toList) ∘ S))) = _
  rw [e, S_cps, joinL_nil]
theorem s_join0 {a : Addr} {ls : List (List Nat)} (h : SqL K H a (ls.map vS)) (hz : ls.flatten.length ≤ 16777216) (k : Q (vS ls.flatten) H) : rJoin K (vS []) [.ref a] H Q := by
  refine ⟨S [], a, ls.map S, rfl, rfl, .inl ?_, ?_, ?_⟩
  · rw [List.map_map]; exact h
  · rw [List.map_map]
    have e1 : (ls.map ((fun x : Str => x.length) ∘ S)) = ls.map List.length := by
      apply List.map_congr_left
      intro z _
      exact S_len z
    rw [e1, S_len]
    simpa using hz
  · rw [join_empty]; exact k
theorem s_fldE {f : Str} (k : ta σ H fun x H1 => FldG K f x H1 Q) : tFld K ta f σ H Q := k
theorem s_propE {C : Addr} {sp : Sp} {dvs : List V} {E : XK} (k : ta σ H fun x H1 => PropG C sp dvs E x H1 Q) : tProp C sp dvs E ta σ H Q := k
theorem s_makeE {C : Addr} {sp : Sp} {dvs : List V} {E : XK} (k : tr σ H fun vs H1 => MakeG C sp dvs E vs H1 Q) : tMake C sp dvs E tr σ H Q := k
theorem s_methE {C : Addr} {m : Str} {sp : Sp} {dvs : List V} {E : XK} (k : ta σ H fun x H1 => MethG C m sp dvs E tr σ x H1 Q) : tMeth C m sp dvs E ta tr σ H Q := k
end
theorem s_setL {a : Addr} {xs : List V} {j : Nat} {v : V} {H : Hp} {R : Hp → Prop} {n : Int} (h : H a = some (.lst xs)) (hj : ixN xs.length n = some j) (k : ∀ H2, Ex [a] H H2 → H2 a = some (.lst (xs.set j v)) → R H2) : rSetL (.ref a) (.int n) v H R := ⟨a, xs, n, j, rfl, rfl, h, hj, k _ (Ex.put (by simp)) upd_same⟩
theorem s_gSub {ta tb : TE} {t : TSet} {v : V} {σ : St} {H : Hp} {R : St → Hp → Prop} (k : ta σ H fun o H1 => tb σ H1 fun i H2 => t o i v H2 fun H3 => R σ H3) : gSub ta tb t v σ H R := k
theorem s_gTup {K : PySem.W.Frag} {a : Addr} {xs : List V} {n : Nat} {t : TGs} {σ : St} {H : Hp} {R : St → Hp → Prop} (h : SqT K H a xs) (hn : xs.length = n) (k : t xs σ H R) : gTup K n t (.ref a) σ H R := ⟨a, xs, rfl, h, hn, k⟩
theorem s_gLst {K : PySem.W.Frag} {a : Addr} {xs : List V} {n : Nat} {t : TGs} {σ : St} {H : Hp} {R : St → Hp → Prop} (h : SqL K H a xs) (hn : xs.length = n) (k : t xs σ H R) : gLst K n t (.ref a) σ H R := ⟨a, xs, rfl, h, hn, k⟩
theorem s_gCons {t : TG} {u : TGs} {v : V} {r : List V} {σ : St} {H : Hp} {R : St → Hp → Prop} (k : t v σ H fun σ' H' => u r σ' H' R) : gCons t u (v :: r) σ H R := ⟨v, r, rfl, k⟩
theorem s_gNil {σ : St} {H : Hp} {R : St → Hp → Prop} (k : R σ H) : gNil [] σ H R := ⟨rfl, k⟩
section
variable {n b c : St → Hp → Prop} {rt : VK} {σ : St} {H : Hp} {te : TE} {tt : TT} {t u : TS} {i : Nat} {K : PySem.W.Frag}
theorem s_seq (k : t ⟨u ⟨n, rt, b, c⟩, rt, b, c⟩ σ H) : tSeq t u ⟨n, rt, b, c⟩ σ H := k
theorem s_sfld {ta tv : TE} {f : Str} (k : tv σ H fun y H1 => ta σ H1 fun x H2 => SetG K f y x H2 (n σ)) : sFld K ta tv f ⟨n, rt, b, c⟩ σ H := k
theorem s_next (k : n σ H) : tNext ⟨n, rt, b, c⟩ σ H := k
theorem s_asg {g : TG} (k : te σ H fun x H1 => g x σ H1 n) : tAsg te g ⟨n, rt, b, c⟩ σ H := k
theorem s_gName {v : V} {R : St → Hp → Prop} (k : R (σ.set i (some v)) H) : gName i v σ H R := k
theorem s_ret (k : te σ H rt) : tRet te ⟨n, rt, b, c⟩ σ H := k
theorem s_drop (k : te σ H fun _ H1 => n σ H1) : tDrop te ⟨n, rt, b, c⟩ σ H := k
theorem s_ifS (k : tt σ H fun q H1 => if q = true then t ⟨n, rt, b, c⟩ σ H1 else u ⟨n, rt, b, c⟩ σ H1) : tIfS tt t u ⟨n, rt, b, c⟩ σ H := k
theorem s_par {i j : Nat} {ta : TA} (k : ta σ H fun vs H1 => ∃ v w, vs = [v, w] ∧ n ((σ.set i (some v)).set j (some w)) H1) : tPar i j ta ⟨n, rt, b, c⟩ σ H := k
theorem s_pair {v w : V} {P : V → V → Prop} (k : P v w) : ∃ v' w', [v, w] = [v', w'] ∧ P v' w' := ⟨v, w, rfl, k⟩
end
end WB
namespace WB
open PySem PySem.Spec PyProof.Rows L2
theorem wipe1 (σ : St) (j : Nat) (x : Option V) : wipe ((wipe σ [j]).set j x) [j] = wipe σ [j] := by
  show ((σ.set j none).set j x).set j none = σ.set j none
  rw [List.set_set, List.set_set]
def LcW (J : It) (g : TG) (tt : TT) (te : TE) (vs : List Nat) (σ : St) (H1 : Hp) (Q : VK) : Prop := ∀ D, H1 D = none → ∃ W : Nat → Nat → Hp → Prop, (∃ m, W 0 m (upd H1 D (.lst []))) ∧ ∀ i m H, W i m H →
  (J.stop i H ∧ Q (.ref D) H) ∨ (J.go i H ∧ ∃ Nx : Hp → Prop, (∀ H', Nx H' → ∃ m', m' < m ∧ W (i + 1) m' H') ∧ ∀ x H', J.yld i H x H' → g x (wipe σ vs) H' fun σ2 H2 => wipe σ2 vs = wipe σ vs ∧ tt σ2 H2 fun b H3 =>
    if b = true then te σ2 H3 fun y H4 => ∃ acc, H4 D = some (.lst acc) ∧ acc.length < sizeLine ∧ Nx (upd H4 D (.lst (acc ++ [y]))) else Nx H3)
theorem s_lc {wi : TI} {g : TG} {tt : TT} {te : TE} {vs : List Nat} {σ : St} {H : Hp} {Q : VK} (k : wi σ H fun J H1 => LcW J g tt te vs σ H1 Q) : tLc wi g tt te vs σ H Q := k
theorem s_rng1 {ta : TA} {σ : St} {H : Hp} {R : It → Hp → Prop} (k : ta σ H fun vs H1 => ∃ j : Int, vs = [.int j] ∧ -(2 ^ 62) ≤ j ∧ j < 2 ^ 62 ∧ R (Itr 0 j.toNat) H1) : iRng1 ta σ H R := k
theorem s_rng1i {j : Int} {C : Int → Prop} (h : -1000000 ≤ j ∧ j ≤ 1000000) (k : C j) : ∃ j' : Int, [V.int j] = [.int j'] ∧ -(2 ^ 62) ≤ j' ∧ j' < 2 ^ 62 ∧ C j' := ⟨j, rfl, by omega, by omega, k⟩
theorem s_rng2 {ta : TA} {σ : St} {H : Hp} {R : It → Hp → Prop} (k : ta σ H fun vs H1 => ∃ i j : Int, vs = [.int i, .int j] ∧ (-(2 ^ 62) ≤ i ∧ i < 2 ^ 62 ∧ -(2 ^ 62) ≤ j ∧ j < 2 ^ 62) ∧ R (Itr i (j - i).toNat) H1) : iRng2 ta σ H R := k
theorem s_rng2i {i j : Int} {C : Int → Int → Prop} (h : -1000000 ≤ i ∧ i ≤ 1000000 ∧ -1000000 ≤ j ∧ j ≤ 1000000) (k : C i j) : ∃ i' j' : Int, [V.int i, V.int j] = [.int i', .int j'] ∧ (-(2 ^ 62) ≤ i' ∧ i' < 2 ^ 62 ∧ -(2 ^ 62) ≤ j' ∧ j' < 2 ^ 62) ∧ C i' j' := ⟨i, j, rfl, by omega, k⟩
theorem s_iStr {te : TE} {σ : St} {H : Hp} {R : It → Hp → Prop} (k : te σ H fun v H1 => ∃ x, v = .str x ∧ R (Its x) H1) : iStr te σ H R := k
theorem s_iStrS {l : List Nat} {C : Str → Prop} (k : C (S l)) : ∃ x, vS l = .str x ∧ C x := ⟨_, rfl, k⟩
theorem s_iList {K : PySem.W.Frag} {te : TE} {σ : St} {H : Hp} {R : It → Hp → Prop} (k : te σ H fun x H1 => ∃ a, x = .ref a ∧ (∃ xs, SqL K H1 a xs) ∧ R (Itl K a) H1) : iList K te σ H R := k
theorem s_iListA {K : PySem.W.Frag} {a : Addr} {xs : List V} {H : Hp} {C : Addr → Prop} (h : SqL K H a xs) (k : C a) : ∃ b, V.ref a = .ref b ∧ (∃ xs, SqL K H b xs) ∧ C b := ⟨a, rfl, ⟨xs, h⟩, k⟩
theorem s_iTup {K : PySem.W.Frag} {te : TE} {σ : St} {H : Hp} {R : It → Hp → Prop} (k : te σ H fun x H1 => ∃ a, x = .ref a ∧ (∃ xs, SqT K H1 a xs) ∧ R (Itt K a) H1) : iTup K te σ H R := k
theorem s_iTupA {K : PySem.W.Frag} {a : Addr} {xs : List V} {H : Hp} {C : Addr → Prop} (h : SqT K H a xs) (k : C a) : ∃ b, V.ref a = .ref b ∧ (∃ xs, SqT K H b xs) ∧ C b := ⟨a, rfl, ⟨xs, h⟩, k⟩
theorem lc_run {J : It} {n : Nat} {G : Hp → Prop} {Y : Nat → Hp → V → Hp → Prop} {g : TG} {tt : TT} {te : TE} {vs : List Nat} {σ : St} {H : Hp} {Q : VK} (w : Walk J n G Y) (hn : n ≤ 100000)
    (m : List Addr) (R : Hp → Prop) (Acc : Nat → List V → Hp → Prop) (hm : ∀ a ∈ m, H a ≠ none) (r0 : R H) (a0 : Acc 0 [] H)
    (rU : ∀ H1 D o, D ∉ m → R H1 → R (upd H1 D o)) (aU : ∀ i acc H1 D o, (H1 D = none ∨ ∃ l, H1 D = some (.lst l)) → Acc i acc H1 → Acc i acc (upd H1 D (.lst o)))
    (hG : ∀ H1, Ex m H H1 → G H1)
    (step : ∀ (i : Nat) (acc : List V) (x : V) (H1 H2 : Hp) (C1 : VK) (C0 : Hp → Prop), i < n → Ex m H H1 → R H1 → Acc i acc H1 → Y i H1 x H2 →
      (∀ y H5, Ex m H1 H5 → R H5 → Acc (i + 1) (acc ++ [y]) H5 → C1 y H5) → (∀ H4, Ex m H1 H4 → R H4 → Acc (i + 1) acc H4 → C0 H4) →
      g x (wipe σ vs) H2 fun σ2 H3 => wipe σ2 vs = wipe σ vs ∧ tt σ2 H3 fun b H4 => if b = true then te σ2 H4 C1 else C0 H4)
    (k : ∀ D H' ys, H D = none → Ex m H H' → R H' → H' D = some (.lst ys) → ys.length ≤ n → Acc n ys H' → Q (.ref D) H') : LcW J g tt te vs σ H Q := by
  intro D hD
  have nD : D ∉ m := fun z => hm D z hD
  refine lc_it w (fun i H1 => Ex m H H1 ∧ R H1 ∧ ∃ acc, H1 D = some (.lst acc) ∧ acc.length ≤ i ∧ Acc i acc H1) ⟨Ex.new hD, rU _ _ _ nD r0, [], upd_same, Nat.le_refl _, aU _ _ _ _ _ (.inl hD) a0⟩ (fun i H1 _ h => hG H1 h.1) ?_ ?_
  · rintro i x H1 H2 hi ⟨e, r, acc, hd, hl, ha⟩ hy
    refine step i acc x H1 H2 _ _ hi e r ha hy (fun y H5 e5 r5 a5 => ?_) (fun H4 e4 r4 a4 => ?_)
    · have hd5 : H5 D = some (.lst acc) := e5 D _ nD hd
      refine ⟨acc, hd5, Nat.lt_of_le_of_lt (Nat.le_trans hl (Nat.le_trans (Nat.le_of_lt hi) hn)) (by decide), ?_, rU _ _ _ nD r5, acc ++ [y], upd_same, by rw [List.length_append]; simp; omega, aU _ _ _ _ _ (.inr ⟨acc, hd5⟩) a5⟩
      intro b o nb hb
      rw [upd_ne (ne_of_none hb hD)]
      exact e5 b o nb (e b o nb hb)
    · exact ⟨e.trans e4, r4, acc, e4 D _ nD hd, by omega, a4⟩
  · rintro H1 ⟨e, r, acc, hd, hl, ha⟩
    exact k D H1 acc hD e r hd hl ha
theorem lc_mapR {n j : Nat} {lo : Int} {te : TE} {σ : St} {H : Hp} {Q : VK} (hn : n ≤ 100000) (val : Nat → V)
    (h : ∀ (i : Nat) (H1 : Hp) (C : VK), i < n → Ex [] H H1 → (∀ H2, Ex [] H1 H2 → C (val i) H2) → te ((wipe σ [j]).set j (some (.int (lo + i)))) H1 C)
    (k : ∀ D H', H D = none → Ex [] H H' → H' D = some (.lst ((List.range n).map val)) → Q (.ref D) H') : LcW (Itr lo n) (gName j) tYes te [j] σ H Q := by
  refine lc_run walk_range hn [] (fun _ => True) (fun i acc _ => acc = (List.range i).map val) (by simp) trivial rfl (fun _ _ _ _ _ => trivial) (fun _ _ _ _ _ _ h => h) (fun _ _ => trivial) ?_ ?_
  · rintro i acc x H1 H2 C1 C0 hi e _ rfl ⟨rfl, rfl⟩ k1 k0
    refine ⟨wipe1 _ _ _, ?_⟩
    refine s_yes ?_
    refine s_T rfl ?_
    refine (h i H2 C1 hi e fun H5 e5 => k1 _ H5 e5 trivial ?_)
    rw [List.range_succ, List.map_append]
    rfl
  · rintro D H' ys hD e _ hd _ rfl
    exact k D H' hD e hd
theorem lc_mapS {l : List Nat} {j : Nat} {tt : TT} {te : TE} {σ : St} {H : Hp} {Q : VK} (hn : l.length ≤ 100000) (p : Nat → Bool) (val : Nat → V)
    (h : ∀ (c : Nat) (H1 : Hp) (C1 : VK) (C0 : Hp → Prop), c ∈ l → Ex [] H H1 → (∀ H2, Ex [] H1 H2 → p c = true → C1 (val c) H2) → (∀ H2, Ex [] H1 H2 → p c = false → C0 H2) →
      tt ((wipe σ [j]).set j (some (vS [c]))) H1 fun b H2 => if b = true then te ((wipe σ [j]).set j (some (vS [c]))) H2 C1 else C0 H2)
    (k : ∀ D H', H D = none → Ex [] H H' → H' D = some (.lst ((l.filter p).map val)) → Q (.ref D) H') : LcW (Its (S l)) (gName j) tt te [j] σ H Q := by
  have hs : (S l).cps.size = l.length := by simp [S]
  have w := walk_str (z := S l)
  rw [hs] at w
  refine lc_run w hn [] (fun _ => True) (fun i acc _ => acc = ((l.take i).filter p).map val) (by simp) trivial (by simp) (fun _ _ _ _ _ => trivial) (fun _ _ _ _ _ _ h => h) (fun _ _ => trivial) ?_ ?_
  · rintro i acc x H1 H2 C1 C0 hi e _ rfl ⟨rfl, c, hc, rfl⟩ k1 k0
    have hc : l[i]? = some c := by simpa [S] using hc
    refine ⟨wipe1 _ _ _, ?_⟩
    refine h c H2 C1 C0 (List.mem_of_getElem? hc) e (fun H5 e5 hp => k1 _ H5 e5 trivial ?_) (fun H5 e5 hp => k0 H5 e5 trivial ?_)
    · rw [List.take_add_one, hc, List.filter_append, List.map_append]
      simp [hp]
    · rw [List.take_add_one, hc, List.filter_append, List.map_append]
      simp [hp]
  · rintro D H' ys hD e _ hd _ rfl
    rw [← hs] at hd
    have : l.take (S l).cps.size = l := by rw [hs]; exact List.take_length
    rw [this] at hd
    exact k D H' hD e hd
def ForW (J : It) (g : TG) (tb : TS) (D : Ends) (σ : St) (H : Hp) : Prop := ∃ W : Nat → Nat → St → Hp → Prop, (∃ m, W 0 m σ H) ∧ ∀ i m σ H, W i m σ H →
  (J.stop i H ∧ D.nx σ H) ∨ (J.go i H ∧ ∃ N : St → Hp → Prop, (∀ σ' H', N σ' H' → ∃ m', m' < m ∧ W (i + 1) m' σ' H') ∧ ∀ x H', J.yld i H x H' → g x σ H' fun σ2 H2 => tb { D with nx := N, ct := N, bk := D.nx } σ2 H2)
theorem s_for {wi : TI} {g : TG} {tb : TS} {n b c : St → Hp → Prop} {rt : VK} {σ : St} {H : Hp} (k : wi σ H fun J H1 => ForW J g tb ⟨n, rt, b, c⟩ σ H1) : tFor wi g tb ⟨n, rt, b, c⟩ σ H := k
theorem for_run {J : It} {m : Nat} {G : Hp → Prop} {Y : Nat → Hp → V → Hp → Prop} {g : TG} {tb : TS} {n b c : St → Hp → Prop} {rt : VK} {σ : St} {H : Hp} (w : Walk J m G Y) (Pv : Nat → St → Hp → Prop) (h0 : Pv 0 σ H) (hG : ∀ i σ H, i ≤ m → Pv i σ H → G H)
    (hs : ∀ i x σ H H', i < m → Pv i σ H → Y i H x H' → g x σ H' fun σ2 H2 => tb ⟨Pv (i + 1), rt, n, Pv (i + 1)⟩ σ2 H2) (hd : ∀ σ H, Pv m σ H → n σ H) : ForW J g tb ⟨n, rt, b, c⟩ σ H :=
  for_it (D := ⟨n, rt, b, c⟩) w Pv h0 hG hs hd
theorem for_rng {lo : Int} {m : Nat} {g : TG} {tb : TS} {n b c : St → Hp → Prop} {rt : VK} {σ : St} {H : Hp} (Pv : Nat → St → Hp → Prop) (h0 : Pv 0 σ H)
    (hs : ∀ (i : Nat) σ H, i < m → Pv i σ H → g (.int (lo + i)) σ H fun σ2 H2 => tb ⟨Pv (i + 1), rt, n, Pv (i + 1)⟩ σ2 H2) (hd : ∀ σ H, Pv m σ H → n σ H) : ForW (Itr lo m) g tb ⟨n, rt, b, c⟩ σ H := by
  refine for_run walk_range Pv h0 (fun _ _ _ _ _ => trivial) ?_ hd
  rintro i x σ H H' hi hp ⟨rfl, rfl⟩
  exact hs i σ _ hi hp
theorem atI_of {α : Type} {xs : List α} {n : Int} {v : α} (h0 : 0 ≤ n) (h : xs[n.toNat]? = some v) : atI xs n = some v := by
  have h1 : n.toNat < xs.length := (List.getElem?_eq_some_iff.mp h).1
  unfold atI ixN
  rw [if_pos h0, if_pos (by omega)]
  exact h
theorem mem_cutV {xs : List V} {lo hi : Option Int} {x : V} (h : x ∈ cutV xs lo hi) : x ∈ xs := List.mem_of_mem_drop (List.mem_of_mem_take h)
end WB
namespace WB
open PySem PySem.Spec PyProof.Rows L2
def rot (l : List Nat) (i : Nat) : List Nat := l.drop i ++ l.take i
def rots (l : List Nat) : List (List Nat) := (List.range l.length).map (rot l)
def leastT (l : List Nat) : List Nat := match rots l with
  | [] => []
  | x :: xs => minL x xs
abbrev LET : List Nat := [97, 98, 99, 100, 101, 102, 103, 104, 105, 106, 107, 108, 109, 110, 111, 112, 113, 114, 115, 116, 117, 118, 119, 120, 121, 122]
theorem lit_abc : ("abcdefghijklmnopqrstuvwxyz" : Str) = S LET := by decide +kernel
theorem lit_empty : ("" : Str) = S [] := by decide +kernel
def isWord (l s : List Nat) : Bool := decide (1 ≤ l.length ∧ l.length ≤ 600) && l.all fun c => decide (c ∈ s)
theorem flat1 : ∀ ls : List Nat, (ls.map fun c => [c]).flatten = ls
  | [] => rfl
  | c :: r => by rw [List.map_cons, List.flatten_cons, flat1 r]; rfl
def KD : List String := ["int", "bool", "str", "NoneType", "list", "tuple", "dict"]
structure RingK (K : PySem.W.Frag) : Prop where
  cl : Cls K (He.ga K "Ring")
  na : NoAttr K (He.ga K "Ring") "least"
  ty : ∀ (H : Hp) (a dx : Addr) (fs : List (Str × V)), H a = some (.ins (He.ga K "Ring") dx fs) → TyX K H (.ref a) (.ref (He.ga K "Ring"))
  me : PySem.W.kitOne K (.ref (He.ga K "Ring")) (.ref (He.ga K "Ring")) = some true
  no : ∀ n ∈ KD, PySem.W.kitOne K (.type n) (.ref (He.ga K "Ring")) = some false
def RingAt (K : PySem.W.Frag) (H : Hp) (a : Addr) (l : List Nat) : Prop := ∃ dx, H a = some (.ins (He.ga K "Ring") dx [("least", vS l)])
theorem RingAt.ex' {K : PySem.W.Frag} {H H' : Hp} {a : Addr} {l : List Nat} {m : List Addr} (h : RingAt K H a l) (e : Ex m H H') (n : a ∉ m) : RingAt K H' a l := by
  obtain ⟨dx, h⟩ := h
  exact ⟨dx, e a _ n h⟩
theorem RingAt.ex {K : PySem.W.Frag} {H H' : Hp} {a : Addr} {l : List Nat} {m : List Addr} (e : Ex m H H') (n : a ∉ m) (h : RingAt K H a l) : RingAt K H' a l := by
  obtain ⟨dx, h⟩ := h
  exact ⟨dx, e a _ n h⟩
def RingOf (K : PySem.W.Frag) (x y : V) (H : Hp) : Prop := ∃ w a, x = vS w ∧ y = .ref a ∧ RingAt K H a (leastT w)
theorem RingOf.ex {K : PySem.W.Frag} {x y : V} {H H' : Hp} (e : Ex [] H H') (h : RingOf K x y H) : RingOf K x y H' := by
  obtain ⟨w, a, h1, h2, h3⟩ := h
  exact ⟨w, a, h1, h2, h3.ex' e (by simp)⟩
theorem RingAt.uniq {K : PySem.W.Frag} {H : Hp} {a : Addr} {l m : List Nat} (h : RingAt K H a l) (h2 : RingAt K H a m) : l = m := by
  obtain ⟨dx, h⟩ := h
  obtain ⟨dy, h2⟩ := h2
  rw [h] at h2
  have e := Option.some.inj h2
  injection e with _ _ e
  injection e with e _
  injection e with _ e
  exact vS_eq.mp e
def TextOf (K : PySem.W.Frag) (x y : V) (H : Hp) : Prop := ∃ a l, x = .ref a ∧ y = vS l ∧ RingAt K H a l
theorem TextOf.ex {K : PySem.W.Frag} {x y : V} {H H' : Hp} (e : Ex [] H H') (h : TextOf K x y H) : TextOf K x y H' := by
  obtain ⟨w, a, h1, h2, h3⟩ := h
  exact ⟨w, a, h1, h2, h3.ex' e (by simp)⟩
def Kd (K : PySem.W.Frag) (H : Hp) (v : V) (n : String) : Prop := TyX K H v (.type n) ∧ n ∈ KD
def sp_is_integer (K : PySem.W.Frag) : Sp := fun vs H Q _ => ∃ (v : V) (n : String), vs = [v] ∧ Kd K H v n ∧ Q (.bl (decide (n = "int"))) H
def sp_is_word (K : PySem.W.Frag) : Sp := fun vs H Q _ => ∃ (v : V) (s : List Nat), vs = [v, vS s] ∧ ((∃ l : List Nat, v = vS l ∧ l.length ≤ 10000 ∧ ∀ H', Ex [] H H' → Q (.bl (isWord l s)) H') ∨ (∃ n, Kd K H v n ∧ n ≠ "str" ∧ Q (.bl false) H))
def sp_least_turning (K : PySem.W.Frag) : Sp := fun vs H Q _ => ∃ l : List Nat, vs = [vS l] ∧ l ≠ [] ∧ l.length ≤ 10000 ∧ ∀ H', Ex [] H H' → Q (vS (leastT l)) H'
def sp_Ring_init (K : PySem.W.Frag) : Sp := fun vs H Q _ => ∃ (x dx : Addr) (l : List Nat), vs = [.ref x, vS l] ∧ isWord l LET = true ∧ H x = some (.ins (He.ga K "Ring") dx []) ∧
  ∀ H', Ex [x] H H' → H' x = some (.ins (He.ga K "Ring") dx [("least", vS (leastT l))]) → Q .non H'
def sp_Ring_text (K : PySem.W.Frag) : Sp := fun vs H Q _ => ∃ (a : Addr) (l : List Nat), vs = [.ref a] ∧ RingAt K H a l ∧ Q (vS l) H
def sp_Ring_str (K : PySem.W.Frag) : Sp := fun vs H Q _ => ∃ (a : Addr) (l : List Nat), vs = [.ref a] ∧ RingAt K H a l ∧ Q (vS l) H
def sp_Ring_eq (K : PySem.W.Frag) : Sp := fun vs H Q _ => ∃ (a : Addr) (v : V), vs = [.ref a, v] ∧ ∃ l, RingAt K H a l ∧ ((∃ b m, v = .ref b ∧ RingAt K H b m ∧ Q (.bl (decide (l = m))) H) ∨ (∃ n, Kd K H v n ∧ Q (.bl false) H))
def NewRing (K : PySem.W.Frag) (H : Hp) (Q : VK) (l : List Nat) : Prop := ∀ x H', H x = none → Ex [] H H' → RingAt K H' x (leastT l) → Q (.ref x) H'
def PoolAt (H : Hp) (a : Addr) : Prop := ∃ x y z : Int, H a = some (.lst [.int x, .int y, .int z])
def sp_law_pool (K : PySem.W.Frag) : Sp := fun vs H Q _ => ∃ c : Int, vs = [.int c] ∧ ∀ p H', H p = none → Ex [] H H' → PoolAt H' p → Q (.ref p) H'
def sp_law_draw (K : PySem.W.Frag) : Sp := fun vs H Q _ => ∃ (a : Addr) (m : Int), vs = [.ref a, .int m] ∧ 0 < m ∧ m < 1000000 ∧ PoolAt H a ∧ ∀ (r : Int) (H' : Hp), 0 ≤ r → r < m → Ex [a] H H' → PoolAt H' a → Q (.int r) H'
def sp_law_turnings (K : PySem.W.Frag) : Sp := fun vs H Q _ => ∃ l : List Nat, vs = [vS l] ∧ l.length ≤ 10000 ∧ ∀ p H', H p = none → Ex [] H H' → H' p = some (.lst ((rots l).map vS)) → Q (.ref p) H'
def sp_law (K : PySem.W.Frag) : Sp := fun vs H Q _ => ∃ (a : Addr) (ns : List Int), vs = [.ref a] ∧ SqL K H a (ns.map V.int) ∧ ns.length ≤ 63 ∧ ∀ H', Q (.bl true) H'
theorem PoolAt.ex {H H' : Hp} {a : Addr} {m : List Addr} (e : Ex m H H') (n : a ∉ m) (h : PoolAt H a) : PoolAt H' a := by
  obtain ⟨x, y, z, h⟩ := h
  exact ⟨x, y, z, e a _ n h⟩
theorem PoolAt.there {H : Hp} {a : Addr} (h : PoolAt H a) : H a ≠ none := by
  obtain ⟨x, y, z, h⟩ := h
  rw [h]
  simp
theorem RingAt.ne {K : PySem.W.Frag} {H : Hp} {a b : Addr} {l : List Nat} (h : RingAt K H b l) (p : PoolAt H a) : b ≠ a := by
  obtain ⟨dx, h⟩ := h
  obtain ⟨x, y, z, p⟩ := p
  intro e
  subst e
  rw [h] at p
  cases p
theorem PoolAt.upd {H : Hp} {a D : Addr} {o : HO} (h : PoolAt H a) (n : D ∉ [a]) : PoolAt (L2.upd H D o) a := by
  obtain ⟨x, y, z, h⟩ := h
  exact ⟨x, y, z, by rw [upd_ne (fun e => n (by rw [e]; simp))]; exact h⟩
section
variable {K : PySem.W.Frag} {H : Hp} {Q : VK} {E : XK}
theorem u_draw {a : Addr} {m : Int} (h0 : 0 < m) (h1 : m < 1000000) (hp : PoolAt H a) (k : ∀ (r : Int) (H' : Hp), 0 ≤ r → r < m → Ex [a] H H' → PoolAt H' a → Q (.int r) H') : sp_law_draw K ([.ref a, .int m] ++ []) H Q E := ⟨a, m, rfl, h0, h1, hp, k⟩
theorem u_pool {c : Int} (k : ∀ p H', H p = none → Ex [] H H' → PoolAt H' p → Q (.ref p) H') : sp_law_pool K ([.int c] ++ []) H Q E := ⟨c, rfl, k⟩
theorem u_turnings {l : List Nat} (hl : l.length ≤ 10000) (k : ∀ p H', H p = none → Ex [] H H' → H' p = some (.lst ((rots l).map vS)) → Q (.ref p) H') : sp_law_turnings K ([vS l] ++ []) H Q E := ⟨l, rfl, hl, k⟩
theorem Kd.int {i : Int} : Kd K H (.int i) "int" := ⟨.base (.int i), by decide +kernel⟩
theorem Kd.bl {b : Bool} : Kd K H (.bl b) "bool" := ⟨.base (.bl b), by decide +kernel⟩
theorem Kd.non : Kd K H .non "NoneType" := ⟨.base .non, by decide +kernel⟩
theorem Kd.str {l : List Nat} : Kd K H (vS l) "str" := ⟨.base (.str (S l)), by decide +kernel⟩
theorem Kd.tup {a : Addr} {xs : List V} (h : SqT K H a xs) : Kd K H (.ref a) "tuple" := by
  refine ⟨?_, by decide +kernel⟩
  rcases h with (h | ⟨o, h⟩) | ⟨o, its, n, h1, h2, _⟩
  · exact .base (.tup h)
  · exact .fTuple h
  · exact .kTuple h1 h2
theorem Kd.lst {a : Addr} {xs : List V} (h : H a = some (.lst xs)) : Kd K H (.ref a) "list" := ⟨.base (.lst h), by decide +kernel⟩
theorem u_is_integer {i : Int} (k : Q (.bl true) H) : sp_is_integer K ([.int i] ++ []) H Q E := ⟨.int i, "int", rfl, Kd.int, k⟩
theorem u_not_integer {v : V} {n : String} (h : Kd K H v n) (hn : n ≠ "int") (k : Q (.bl false) H) : sp_is_integer K ([v] ++ []) H Q E := ⟨v, n, rfl, h, by rw [decide_eq_false hn]; exact k⟩
theorem kitB_str {n : String} (h : n ∈ KD) (hn : n ≠ "str") : kitB n "str" = some false := by
  simp only [KD, List.mem_cons, List.not_mem_nil, or_false] at h
  rcases h with rfl | rfl | rfl | rfl | rfl | rfl | rfl
  all_goals first | exact absurd rfl hn | decide +kernel
theorem s_isiK {v : V} {n m : String} {b : Bool} (h : Kd K H v n) (hb : kitB n m = some b) (k : Q (.bl b) H) : rIsi K [v, .ty m] H Q := ⟨_, _, _, _, _, rfl, .ty _, h.1, kit_ty hb, k⟩
theorem u_is_word {l s : List Nat} (hl : l.length ≤ 10000) (k : ∀ H', Ex [] H H' → Q (.bl (isWord l s)) H') : sp_is_word K ([vS l] ++ [vS s]) H Q E := ⟨_, _, rfl, .inl ⟨l, rfl, hl, k⟩⟩
theorem u_not_word {v : V} {s : List Nat} {n : String} (h : Kd K H v n) (hn : n ≠ "str") (k : Q (.bl false) H) : sp_is_word K ([v] ++ [vS s]) H Q E := ⟨_, _, rfl, .inr ⟨n, h, hn, k⟩⟩
theorem u_least_turning {l : List Nat} (h0 : l ≠ []) (hl : l.length ≤ 10000) (k : ∀ H', Ex [] H H' → Q (vS (leastT l)) H') : sp_least_turning K ([vS l] ++ []) H Q E := ⟨l, rfl, h0, hl, k⟩
theorem u_fldRing {a : Addr} {l : List Nat} (F : RingK K) (h : RingAt K H a l) (k : Q (vS l) H) : FldG K "least" (.ref a) H Q := by
  obtain ⟨dx, h⟩ := h
  exact ⟨a, _, dx, _, _, rfl, h, F.cl, F.na, rfl, k⟩
theorem u_setRing {x dx : Addr} {y : V} {R : Hp → Prop} (F : RingK K) (h : H x = some (.ins (He.ga K "Ring") dx [])) (k : ∀ H2, Ex [x] H H2 → H2 x = some (.ins (He.ga K "Ring") dx [("least", y)]) → R H2) : SetG K "least" y (.ref x) H R :=
  ⟨x, _, dx, [], rfl, h, F.cl, F.na, by simp, k _ (Ex.put (by simp)) upd_same⟩
theorem u_textP {a : Addr} {l : List Nat} (h : RingAt K H a l) (k : Q (vS l) H) : PropG (He.ga K "Ring") (sp_Ring_text K) [] E (.ref a) H Q := by
  obtain ⟨dx, h'⟩ := id h
  exact ⟨a, dx, _, rfl, h', a, l, rfl, h, k⟩
theorem u_strRing {a : Addr} {l : List Nat} (h : RingAt K H a l) (k : Q (vS l) H) : rStrO (He.ga K "Ring") (sp_Ring_str K) E [.ref a] H Q := by
  obtain ⟨dx, h'⟩ := id h
  exact ⟨a, dx, _, rfl, h', a, l, rfl, h, _, rfl, k⟩
theorem u_eqRing {a b : Addr} {l m : List Nat} (h : RingAt K H a l) (h2 : RingAt K H b m) (k : Q (.bl (decide (l = m))) H) : rEqO (He.ga K "Ring") (sp_Ring_eq K) E (.ref a) (.ref b) H Q := by
  obtain ⟨dx, h'⟩ := id h
  obtain ⟨dy, h2'⟩ := id h2
  exact ⟨a, dx, _, b, dy, _, rfl, rfl, h', h2', a, _, rfl, l, h, .inl ⟨b, m, rfl, h2, _, rfl, k⟩⟩
theorem u_isiRing {a : Addr} {l : List Nat} (F : RingK K) (h : RingAt K H a l) (k : Q (.bl true) H) : rIsi K [.ref a, .ref (He.ga K "Ring")] H Q := by
  obtain ⟨dx, h'⟩ := id h
  exact ⟨_, _, _, _, _, rfl, .own _, F.ty _ _ _ _ h', F.me, k⟩
theorem u_makeRing {l : List Nat} (hw : isWord l LET = true) (k : NewRing K H Q l) : MakeG (He.ga K "Ring") (sp_Ring_init K) [] E [vS l] H Q := by
  intro x dx hx hdx ne
  refine ⟨x, dx, l, rfl, hw, upd_same, fun H' e h => ⟨rfl, k x H' hx ?_ ⟨dx, h⟩⟩⟩
  intro b o _ hb
  have nb : b ≠ x := ne_of_none hb hx
  refine e b o (by simpa using nb) ?_
  rw [upd_ne nb, upd_ne (ne_of_none hb hdx)]
  exact hb
theorem isWord_len {l s : List Nat} (h : isWord l s = true) : 1 ≤ l.length ∧ l.length ≤ 600 := of_decide_eq_true (Bool.and_eq_true_iff.mp h).1
theorem isWord_in {l s : List Nat} (h : isWord l s = true) : ∀ c ∈ l, c ∈ s := fun c hc => of_decide_eq_true (List.all_eq_true.mp (Bool.and_eq_true_iff.mp h).2 c hc)
theorem isWord_mk {l s : List Nat} (h1 : 1 ≤ l.length) (h2 : l.length ≤ 600) (h3 : ∀ c ∈ l, c ∈ s) : isWord l s = true := Bool.and_eq_true_iff.mpr ⟨decide_eq_true ⟨h1, h2⟩, List.all_eq_true.mpr fun c hc => decide_eq_true (h3 c hc)⟩
end
end WB
namespace WB
open PySem PySem.Spec PyProof.Rows L2
def dS (l : List Nat) : PyData := .str (S l)
def plain (l : List Nat) : Prop := ∀ c ∈ l, c < 55296
theorem strOk_S {l : List Nat} (h : plain l) : PyData.strOk (S l) = true := by
  unfold PyData.strOk
  rw [← Array.all_toList, S_cps, List.all_eq_true]
  intro c hc
  have := h c hc
  exact decide_eq_true (by omega)
theorem canLay_strs : ∀ {ls : List (List Nat)}, (∀ l ∈ ls, plain l) → PyData.canLayAll0 (ls.map dS) = true
  | [], _ => by simp [PyData.canLayAll0]
  | l :: ls, h => by
    rw [List.map_cons, PyData.canLayAll0]
    refine Bool.and_eq_true_iff.mpr ⟨?_, canLay_strs fun l hl => h l (List.mem_cons_of_mem _ hl)⟩
    unfold dS
    rw [PyData.canLay0]
    exact strOk_S (h l List.mem_cons_self)
theorem depth_strs : ∀ ls : List (List Nat), PyData.depthAll (ls.map dS) = 0
  | [] => by simp [PyData.depthAll]
  | l :: ls => by
    rw [List.map_cons, PyData.depthAll, depth_strs ls]
    simp [dS, PyData.depth]
theorem shaped_strs {ls : List (List Nat)} (h : ∀ l ∈ ls, plain l) : SeqAt.shaped (.list (ls.map dS)) = true := by
  unfold SeqAt.shaped
  refine Bool.and_eq_true_iff.mpr ⟨?_, decide_eq_true ?_⟩
  · rw [PyData.canLay0]; exact canLay_strs h
  · rw [PyData.depth, depth_strs]; omega
theorem eqv_strs : ∀ ls ms : List (List Nat), PyData.eqvAll (ls.map dS) (ms.map dS) = decide (ls = ms)
  | [], [] => by simp [PyData.eqvAll]
  | [], m :: ms => by simp [PyData.eqvAll]
  | l :: ls, [] => by simp [PyData.eqvAll]
  | l :: ls, m :: ms => by
    rw [List.map_cons, List.map_cons, PyData.eqvAll, eqv_strs ls ms]
    have : PyData.eqv (dS l) (dS m) = decide (l = m) := by
      unfold dS
      rw [PyData.eqv]
      by_cases e : l = m
      · subst e; simp
      · rw [decide_eq_false e]
        exact beq_eq_false_iff_ne.mpr fun z => e (S_inj z)
    rw [this]
    by_cases e : l = m <;> by_cases e2 : ls = ms <;> simp [e, e2]
theorem dp_strs {K : PySem.W.Frag} {H : Hp} : ∀ ls : List (List Nat), DpAll K H (ls.map vS) (ls.map dS)
  | [] => .nil
  | l :: ls => .cons (.str _) (dp_strs ls)
section
variable {K : PySem.W.Frag} {H : Hp} {Q : VK}
theorem s_neLS {a b : Addr} {ls ms : List (List Nat)} (h1 : SqL K H a (ls.map vS)) (h2 : SqL K H b (ms.map vS)) (p1 : ∀ l ∈ ls, plain l) (p2 : ∀ l ∈ ms, plain l) (k : Q (.bl (!decide (ls = ms))) H) : rNeD K (.ref a) (.ref b) H Q := by
  refine ⟨_, _, .lst h1 (dp_strs ls), .lst h2 (dp_strs ms), shaped_strs p1, shaped_strs p2, ?_⟩
  rw [PyData.eqv, eqv_strs]
  exact k
end
end WB
namespace WB
open PySem PySem.Spec PyProof.Rows L2
def rListS : List V → Hp → VK → Prop := fun xs H Q => ∃ l : List Nat, xs = [vS l] ∧ l.length ≤ sizeLine ∧ ∀ p H2, H p = none → Ex [] H H2 → H2 p = some (.lst (l.map fun c => vS [c])) → Q (.ref p) H2
theorem call_listS {X : Cx} (hc : X.calm = true) : CallR X (.type "list") rListS := by
  intro pins s σ H xs us Q I r h
  obtain ⟨l, rfl, hz, q⟩ := h
  obtain ⟨u, rfl, t, rfl⟩ := vals1 r
  have hs : (S l).cps.size = l.length := by simp [S]
  refine PySem.call_list_str (I.ok.hd hc) (S l) t (fun h' tk acc' c' hkeep hS hacc => ?_) (by rw [hs]; exact hz)
  refine ⟨.ref s.heap.objs.size, upd H s.heap.objs.size (.lst (l.map fun c => vS [c])), I.laid hkeep (Nat.le_refl _) (show ObjOk X.prog X.w _ _ _ (.lst (l.map fun c => vS [c])) from ⟨?_, acc'.toList, c', ?_, ?_⟩), rfl, q _ _ (I.hok.fresh (Nat.le_refl _)) (Ex.new (I.hok.fresh (Nat.le_refl _))) upd_same⟩
  · rw [List.length_map]; exact hz
  · have el : acc'.toList.length = acc'.size := by simp
    refine vals_of_at (by rw [List.length_map, el, hacc.1, hs]) fun j x w h1 h2 => ?_
    obtain ⟨c, u, hcu, rfl⟩ := hacc.2 j w (by rw [← Array.getElem?_toList]; exact h2)
    have hcu : l[j]? = some c := by simpa [S] using hcu
    rw [List.getElem?_map, hcu] at h1
    cases h1
    exact ⟨u, rfl⟩
  · rw [Array.toArray_toList]; exact hS
end WB
namespace WB
open PySem PySem.Spec PyProof.Rows L2
section
variable {M : Model} {prog : Program} {w : World} {A : Around} {E : Value → Shared → Prop} {s : Shared} {K : PySem.W.Frag} {x C f : Addr} {ox : Obj} {od : Option Obj} {b : Value}
theorem entry_ne {Q : Fin → Shared → Prop} (hu : A.units < cLine) (X : K.In s.heap) (I : PySem.W.InstAt s.heap x ox C od) (hs : PySem.W.findIn K (.ref C) "__eq__" = some (some (.ref f))) (hf : PySem.W.isFn K (.ref f) = true)
    (h : wpAny M A (call (.ref f) [.ref x, b]) (fun v s' => ∃ c, v = .bool c ∧ Q (.done (.ret (.bool (!c)))) s') E s) : wpAny M A (Builtin.«object.__ne__» ⟨[.ref x, b], []⟩) Q E s := by
  unfold Builtin.«object.__ne__»
  refine wpAny_bind ?_
  wp_step
  wp_step
  show wpAny M A (pure (Value.ref x, [b])) _ E s
  refine wpAny_pure ?_
  show wpAny M A (cRoomFor "comparison" [Value.ref x, b] >>= _) Q E s
  refine wpAny_bind (wpAny_cRoomFor hu ?_)
  refine wpAny_bind (PySem.W.ifBound_K X I hs hf (wpAny_mono h (fun v s' hv => ?_) fun _ _ z => z))
  obtain ⟨c, rfl, q⟩ := hv
  exact wpAny_bind (wpAny_truthy_bool (wpAny_pure q))
theorem call_objNe {Q : Value → Shared → Prop} (hu : A.in1.units < cLine) (X : K.In s.heap) (I : PySem.W.InstAt s.heap x ox C od) (hm : PySem.W.mroIn K C (.type "object") = some true) (hs : PySem.W.findIn K (.ref C) "__eq__" = some (some (.ref f))) (hf : PySem.W.isFn K (.ref f) = true)
    (h : wpAny (model prog w) A.in1 (call (.ref f) [.ref x, b]) (fun v s' => ∃ c, v = .bool c ∧ Q (.bool (!c)) s') E s) : wpAny (model prog w) A (call (.builtin "object.__ne__") [.ref x, b]) Q E s :=
  wpAny_call (codeAny_call_builtin F.cmp_object.ne.plain F.cmpEntry_ne (PySem.W.check_slot F.cmpKind_ne F.cmpSplit_ne (I.type.andThen (PySem.W.looks_mroIn X hm)) (F.cmpArgs_ne _ _) (entry_ne hu X I hs hf h)))
theorem ifBound_objNe {args : List Value} {Q : Option Value → Shared → Prop} (X : K.In s.heap) (I : PySem.W.InstAt s.heap x ox C od) (hs : PySem.W.findIn K (.ref C) "__ne__" = some (some (.builtin "object.__ne__")))
    (h : wpAny M A (call (.builtin "object.__ne__") (.ref x :: args)) (fun v => Q (some v)) E s) : wpAny M A (callSpecialIfBound? (.ref x) "__ne__" args) Q E s := by
  simp only [callSpecialIfBound?, bindSpecialIfBound?]
  refine wpAny_holding (wpAny_bind (wpAny_bind (wpAny_bind (I.type.here ((PySem.W.looks_findIn X hs).here ?_)))))
  refine wpAny_bind (wpAny_askSetting (wpAny_ite ?_))
  have fin : wpAny M A (call (.builtin "object.__ne__") ([.ref x] ++ args) >>= fun v => pure (some v)) Q E s := wpAny_bind (wpAny_mono h (fun v s' h' => wpAny_pure h') fun _ _ h' => h')
  split
  · exact wpAny_bind (wpAny_of_eq (F.cmp_object.ne.bind _) (wpAny_pure (by exact fin)))
  · exact wpAny_tryCatch (wpAny_bind (wpAny_of_eq (F.cmp_object.ne.bind _) (wpAny_pure (by exact fin))))
theorem rc_ne {tb : Value} {Q : Value → Shared → Prop} (hu : A.units < cLine) (hu1 : A.in1.units < cLine) (X : K.In s.heap) (I : PySem.W.InstAt s.heap x ox C od) (hb : PySem.W.Looks (model prog w) s.heap (typeOf b) tb) (hn : PySem.W.notFirst K C tb = true) (hm : PySem.W.mroIn K C (.type "object") = some true)
    (h1 : PySem.W.findIn K (.ref C) "__ne__" = some (some (.builtin "object.__ne__"))) (hs : PySem.W.findIn K (.ref C) "__eq__" = some (some (.ref f))) (hf : PySem.W.isFn K (.ref f) = true)
    (h : wpAny (model prog w) A.in1 (call (.ref f) [.ref x, b]) (fun v s' => ∃ c, v = .bool c ∧ Q (.bool (!c)) s') E s) : wpAny (model prog w) A (richCompare .NotEq (.ref x) b) Q E s := by
  have one : wpAny (model prog w) A (tryCompare (.ref x) "__ne__" b) (fun r s' => ∃ v, r = some v ∧ Q v s') E s := by
    unfold tryCompare
    refine wpAny_bind (ifBound_objNe X I h1 (call_objNe hu1 X I hm hs hf (wpAny_mono h (fun v s' hv => ?_) fun _ _ e => e)))
    obtain ⟨c, rfl, q⟩ := hv
    exact ⟨c, rfl, wpAny_pure ⟨_, rfl, q⟩⟩
  simp only [richCompare, cmpInfo_NotEq, oneThing_ref]
  refine wpAny_holding (wpAny_bind (wpAny_cRoomFor hu ?_))
  refine wpAny_bind (I.type.here (wpAny_bind (hb.here ?_)))
  split
  · rename_i q
    have e : PySem.W.subIn K tb (.ref C) = some false := by
      rcases Bool.or_eq_true_iff.mp hn with e | e
      · rw [beq_iff_eq.mp e] at q; simp at q
      · exact beq_iff_eq.mp e
    refine wpAny_bind ((PySem.W.looks_subIn X e).here ?_)
    simp only [Bool.false_eq_true, if_false]
    refine wpAny_bind (wpAny_mono one (fun r s' z => ?_) fun _ _ e => e)
    obtain ⟨v, rfl, hq⟩ := z
    exact wpAny_pure hq
  · refine wpAny_bind (wpAny_pure ?_)
    simp only [Bool.false_eq_true, if_false]
    refine wpAny_bind (wpAny_mono one (fun r s' z => ?_) fun _ _ e => e)
    obtain ⟨v, rfl, hq⟩ := z
    exact wpAny_pure hq
end
theorem type_looks {X : Cx} {pins : List (Addr × Obj)} {σ : L2.St} {H : Hp} {s : Shared} {y : V} {v t : Value} (I : L2.Inv X pins σ H s) (ry : RelV y v) (ty : TyX X.K H y t) : PySem.W.Looks (model X.prog X.w) s.heap (typeOf v) t := by
  obtain ⟨P, Z, hP, _⟩ := kit_of I ry ty
  exact Z.ty _ _ I.kIn hP
section
variable {X : Cx} {CX : CXT} {k : Nat} {f C : Addr} {fd : FuncData} {ps : List Str} {sp : Sp} {E : XK}
structure NeF (K : PySem.W.Frag) (C : Addr) : Prop where
  ne : PySem.W.findIn K (.ref C) "__ne__" = some (some (.builtin "object.__ne__"))
  mro : PySem.W.mroIn K C (.type "object") = some true
def rNeA (K : PySem.W.Frag) (C : Addr) (sp : Sp) (E : XK) : R2 := fun x y H Q => ∃ a dx fs t, x = .ref a ∧ H a = some (.ins C dx fs) ∧ TyX K H y t ∧ PySem.W.notFirst K C t = true ∧ sp [x, y] H (fun z H' => ∃ c, z = .bl c ∧ Q (.bl (!c)) H') E
theorem op_neA (N : NeF X.K C) (S : Spec1 X.K C "__eq__" f) (F : FnOk X.prog X.w X.K X.mg X.base CX k f fd ps sp) (hr : Room (k + 1) X.A) (hb : Binds X.K fd ps []) (hx : Passes CX X E) : OpR X (compareOp .NotEq) (rNeA X.K C sp E) := by
  intro pins s σ H x y v u Q I rx ry h
  obtain ⟨a, dx, fs, t, rfl, ha, ty, nf, h⟩ := h
  cases rx
  obtain ⟨ox, od, J⟩ := inst_at I ha
  have sb : Sub X (k + 1) X.A := ⟨hr, rfl⟩
  show wpAny (model X.prog X.w) X.A (richCompare .NotEq (.ref a) u) (EP X pins σ Q) X.xe s
  refine rc_ne sb.room.units0 sb.in1.room.units0 I.kIn J (type_looks I ry ty) nf N.mro N.ne S.at_ S.fn (wpAny_mono (run_sub (dvs := []) (vs := [.ref a, y]) F sb.in1 hb .nil hx I (.cons rfl (.cons ry .nil)) h) (fun v s' hv => ?_) fun _ _ z => z)
  obtain ⟨z, H', I', rz, c, rfl, q⟩ := hv
  cases rz
  exact ⟨c, rfl, .bl (!c), H', I', rfl, q⟩
end
theorem notFirst_own {K : PySem.W.Frag} {C : Addr} : PySem.W.notFirst K C (.ref C) = true := by simp [PySem.W.notFirst]
section
variable {K : PySem.W.Frag} {H : Hp} {Q : VK}
def rInStr : R2 := fun x y H Q => ∃ i j, x = .str i ∧ y = .str j ∧ Q (.bl (!(Builtin.Str.occurrences j i 0 j.length 1).isEmpty)) H
def occ (l m : List Nat) : Bool := decide (∃ i, i ≤ m.length ∧ (m.drop i).take l.length = l)
theorem occ_of {l m : List Nat} : (!(Builtin.Str.occurrences (S m) (S l) 0 (S m).length 1).isEmpty) = occ l m := by
  rw [Bool.eq_iff_iff, PySem.StrLaws.found_iff]
  unfold occ
  rw [decide_eq_true_iff]
  have hx : ∀ i, (i + (S l).length ≤ (S m).length ∧ Builtin.Str.subAt (S m) (S l) i = true) ↔ (i ≤ m.length ∧ (m.drop i).take l.length = l) := by
    intro i
    rw [S_len, S_len]
    unfold Builtin.Str.subAt
    rw [beq_iff_eq, ← Array.toList_inj, S_len]
    have e1 : ((S m).cps.extract i (i + l.length)).toList = (m.drop i).take l.length := by
      rw [Array.toList_extract, S_cps]
      simp [List.extract]
    rw [e1, S_cps]
    constructor
    · rintro ⟨h1, h2⟩
      exact ⟨by omega, h2⟩
    · rintro ⟨h1, h2⟩
      refine ⟨?_, h2⟩
      have := congrArg List.length h2
      rw [List.length_take, List.length_drop] at this
      omega
  constructor
  · rintro ⟨i, h⟩; exact ⟨i, (hx i).mp h⟩
  · rintro ⟨i, h⟩; exact ⟨i, (hx i).mpr h⟩
theorem s_inStr {l m : List Nat} (k : Q (.bl (occ l m)) H) : rInStr (vS l) (vS m) H Q := ⟨_, _, rfl, rfl, by rw [occ_of]; exact k⟩
theorem s_repL {a : Addr} {xs : List V} {n : Int} (h : H a = some (.lst xs)) (h0 : 0 ≤ n) (h1 : n ≤ 1000) (hz : xs.length * n.toNat ≤ sizeLine) (k : ∀ p H2, H p = none → Ex [] H H2 → H2 p = some (.lst (List.replicate n.toNat xs).flatten) → Q (.ref p) H2) : rRep (.ref a) (.int n) H Q :=
  ⟨a, n, xs, rfl, rfl, h, by omega, by omega, hz, s_new k⟩
theorem s_append {a : Addr} {xs : List V} {y : V} (h : H a = some (.lst xs)) (hz : xs.length < sizeLine) (k : ∀ H2, Ex [a] H H2 → H2 a = some (.lst (xs ++ [y])) → Q .non H2) : rAppend (.ref a) [y] H Q := ⟨a, xs, y, rfl, rfl, h, hz, k _ (Ex.put (by simp)) upd_same⟩
theorem s_bm {te : TE} {ta : TA} {T : String} {r : V → List V → Hp → VK → Prop} {σ : L2.St} (k : te σ H fun x H1 => tyV K T x H1 ∧ ta σ H1 fun xs H2 => r x xs H2 Q) : tBM K T r te ta σ H Q := k
theorem s_tyL {a : Addr} {xs : List V} {B : Prop} (h : H a = some (.lst xs)) (k : B) : tyV K "list" (.ref a) H ∧ B := ⟨.inl ⟨rfl, xs, SqL.of h⟩, k⟩
end
end WB
namespace WB
open PySem PySem.Spec PyProof.Rows L2
abbrev Fr' := PySem.W.Frag
abbrev Fx := PySem.W.Frag → Bool
def obsW (fa : List He.Fa) (fn : List He5.DefA) (ex : List Fx) (K : Fr') : He.AlD := ((fa.all fun f => f.ok K) && (ex.all (fun f => f K) && fn.all fun d => d.ok K), fn.map fun d => He5.fnA K (d.at_ K))
def SaysW (fa : List He.Fa) (fn : List He5.DefA) (ex : List Fx) (K : Fr') : Prop := obsW fa fn ex K = He5.valA fn
def frN {α : Type} (n : Nat) (k : Nat → α) : α := Nat.rec (k 0) (fun m _ => k (m + 1)) n
def addB {α : Type} : List Addr → Nat → List Addr → (Nat → List Addr → α) → α
  | [], seen, new, k => k seen new
  | a :: r, seen, new, k => match Nat.beq (Nat.land (Nat.shiftRight seen a) 1) 1 with
    | true => addB r seen new k
    | false => frN (Nat.lor seen (Nat.shiftLeft 1 a)) fun seen' => addB r seen' (a :: new) k
def bfsB (g : Addr → Option Obj) : Nat → Nat → List Addr → List Addr → List Addr
  | 0, _, _, acc => acc
  | n + 1, seen, front, acc => addB (front.flatMap fun a => match g a with
    | some o => He.refsD o
    | none => []) seen [] fun seen' new => bfsB g n seen' new (new ++ acc)
def asB (g : Addr → Option Obj) (n : Nat) : List Addr := bfsB g n (Nat.shiftLeft 1 mainGlobals) [mainGlobals] [mainGlobals] ++ [cStatics]
def obsWG (n : Nat) (fa : List He.Fa) (fn : List He5.DefA) (ex : List Fx) (g : Addr → Option Obj) : He.AlD := obsW fa fn ex (He.frG g (asB g n))
def fdOf (K : Fr') (f : Addr) : FuncData := match K.lookup f with
  | some ⟨_, _, .func fd, _⟩ => fd
  | _ => PySem.W.fnOf "" "" { posonlyargs := [], args := [], vararg := none, kwonlyargs := [], kw_defaults := [], kwarg := none, defaults := [] } [] { kind := .function, names := [], isGenerator := false, isCoroutine := false } .none .none .none .none none .none .none
section
variable {fa : List He.Fa} {fn : List He5.DefA} {ex : List Fx} {K : Fr'}
theorem SaysW.b (c : SaysW fa fn ex K) : (fa.all fun f => f.ok K) = true ∧ ex.all (fun f => f K) = true ∧ (fn.all fun d => d.ok K) = true := by
  have h := congrArg (fun z : He.AlD => z.1) c
  obtain ⟨h1, h2⟩ := He.ba (show ((fa.all fun f => f.ok K) && (ex.all (fun f => f K) && fn.all fun d => d.ok K)) = true from h)
  obtain ⟨h2, h3⟩ := He.ba h2
  exact ⟨h1, h2, h3⟩
theorem SaysW.fact (c : SaysW fa fn ex K) (i : Nat) {f : He.Fa} (h : fa[i]? = some f := by rfl) : f.ok K = true := List.all_eq_true.mp c.b.1 f (List.mem_of_getElem? h)
theorem SaysW.more (c : SaysW fa fn ex K) (i : Nat) {f : Fx} (h : ex[i]? = some f := by rfl) : f K = true := List.all_eq_true.mp c.b.2.1 f (List.mem_of_getElem? h)
theorem SaysW.def_ (c : SaysW fa fn ex K) (i : Nat) {d : He5.DefA} (h : fn[i]? = some d := by rfl) : FunD K d.name d.qual d.params d.body d.scope (d.dvs K) (d.kws K) (d.at_ K) (fdOf K (d.at_ K)) := by
  have e : fn.map (fun d => He5.fnA K (d.at_ K)) = fn.map He5.DefA.val := congrArg (fun z : He.AlD => z.2) c
  have e2 : (fn.map fun d => He5.fnA K (d.at_ K))[i]? = (fn.map He5.DefA.val)[i]? := by rw [e]
  rw [List.getElem?_map, List.getElem?_map, h] at e2
  obtain ⟨fd, F⟩ := He5.DefA.funD (Option.some.inj e2) (List.all_eq_true.mp c.b.2.2 d (List.mem_of_getElem? h))
  obtain ⟨oc, od, dV, kV, doc, pm, an, cdv, ct, osl, e3, lk, r⟩ := F.ex
  have : fdOf K (d.at_ K) = fd := by
    unfold fdOf
    rw [lk]
  rw [this]
  exact F
end
def specB (x m : Str) : Fx := fun K => He.eqO (PySem.W.findIn K (.ref (He.ga K x)) m) (some (some (.ref (He.ma K (He.ga K x) m)))) && PySem.W.isFn K (.ref (He.ma K (He.ga K x) m))
theorem specB_ok {K : Fr'} {x m : Str} (h : specB x m K = true) : Spec1 K (He.ga K x) m (He.ma K (He.ga K x) m) := by
  obtain ⟨h1, h2⟩ := He.ba h
  exact ⟨He.eqO_ok h1, h2⟩
def propB (x f : Str) : Fx := fun K => He.eqO (PySem.W.findIn K (.ref (He.ga K x)) f) (some (some (.ref (He.ma K (He.ga K x) f)))) && (decide (PySem.W.specialIn K (.ref (He.ma K (He.ga K x) f)) "__get__" = some (some (.builtin "property.__get__"))) && (decide (PySem.W.takesIn K (.ref (He.ma K (He.ga K x) f)) = some true) && (match PySem.W.recIn K (He.ma K (He.ga K x) f) "property" with
  | some (.ref _ :: _) => true
  | _ => false)))
theorem propB_ok {K : Fr'} {x f : Str} (h : propB x f K = true) : PropOf K (He.ga K x) f (He.ma K (He.ga K x) f) (He5.wf K (He.ga K x) "property" f) := by
  obtain ⟨h1, h⟩ := He.ba h
  obtain ⟨h2, h⟩ := He.ba h
  obtain ⟨h3, h4⟩ := He.ba h
  refine ⟨He.eqO_ok h1, of_decide_eq_true h2, of_decide_eq_true h3, ?_⟩
  unfold He5.wf
  split at h4
  · rename_i f r e
    exact ⟨r, by rw [e]⟩
  · cases h4
def insB (x : Str) : Fx := fun K => He.eqO (PySem.W.findIn K (.ref (He.ga K x)) "__class__") (some (some (.builtin "object.__class__"))) && (He.eqO (PySem.W.specialIn K (.builtin "object.__class__") "__get__") (some (some (.builtin "getset_descriptor.__get__"))) && (decide (PySem.W.takesIn K (.builtin "object.__class__") = some true) && (decide (PySem.W.mroIn K (He.ga K x) (.type "object") = some true) && decide (PySem.W.kitOne K (.ref (He.ga K x)) (.ref (He.ga K x)) = some true))))
theorem insB_ok {K : Fr'} {x : Str} (c : Cls K (He.ga K x)) (h : insB x K = true) : (∀ (H : Hp) (a dx : Addr) (fs : List (Str × V)), H a = some (.ins (He.ga K x) dx fs) → TyX K H (.ref a) (.ref (He.ga K x))) ∧ PySem.W.kitOne K (.ref (He.ga K x)) (.ref (He.ga K x)) = some true := by
  obtain ⟨h1, h⟩ := He.ba h
  obtain ⟨h2, h⟩ := He.ba h
  obtain ⟨h3, h⟩ := He.ba h
  obtain ⟨h4, h5⟩ := He.ba h
  exact ⟨fun H a dx fs e => .base (.ins e c (He.eqO_ok h1) (He.eqO_ok h2) (of_decide_eq_true h3) (of_decide_eq_true h4)), of_decide_eq_true h5⟩
def noB (x : Str) : Fx := fun K => KD.all fun n => decide (PySem.W.kitOne K (.type n) (.ref (He.ga K x)) = some false)
theorem noB_ok {K : Fr'} {x : Str} (h : noB x K = true) : ∀ n ∈ KD, PySem.W.kitOne K (.type n) (.ref (He.ga K x)) = some false := fun n hn => of_decide_eq_true (List.all_eq_true.mp h n hn)
def neB (x : Str) : Fx := fun K => He.eqO (PySem.W.findIn K (.ref (He.ga K x)) "__ne__") (some (some (.builtin "object.__ne__"))) && decide (PySem.W.mroIn K (He.ga K x) (.type "object") = some true)
theorem neB_ok {K : Fr'} {x : Str} (h : neB x K = true) : NeF K (He.ga K x) := by
  obtain ⟨h1, h2⟩ := He.ba h
  exact ⟨He.eqO_ok h1, of_decide_eq_true h2⟩
def crB (x : Str) : Fx := fun K => PySem.W.readsIn K (He.ga K x) (.type "type") && decide (PySem.W.specialIn K (.ref (He.ga K x)) "__getattribute__" = some (some (.builtin "type.__getattribute__")))
theorem crB_ok {K : Fr'} {x : Str} (h : crB x K = true) : ClX.CRead K (He.ga K x) (.type "type") := by
  obtain ⟨h1, h2⟩ := He.ba h
  exact ⟨h1, of_decide_eq_true h2⟩
def cmB (x m : Str) : Fx := fun K => He5.wrapB K (He.ga K x) "classmethod" "classmethod.__get__" m && PySem.W.fnIn K (He5.wf K (He.ga K x) "classmethod" m)
theorem cmB_ok {K : Fr'} {x m : Str} (h : cmB x m K = true) : ClX.CMet K (He.ga K x) (.type "type") m (He.ma K (He.ga K x) m) (He5.wf K (He.ga K x) "classmethod" m) := by
  obtain ⟨h1, h2⟩ := He.ba h
  exact He5.cmet_of h1 h2
def kitNB (x y : Str) : Fx := fun K => decide (PySem.W.kitOne K (.ref (He.ga K x)) (.ref (He.ga K y)) = some false)
theorem kitNB_ok {K : Fr'} {x y : Str} (h : kitNB x y K = true) : PySem.W.kitOne K (.ref (He.ga K x)) (.ref (He.ga K y)) = some false := of_decide_eq_true h
end WB
namespace WB
open PySem PySem.Spec PyProof.Rows L2
def tup0B (p : Fr' → Addr) : Fx := fun K => match K.lookup (p K) with
  | some ⟨.type c, _, .seq its _, _⟩ => decide (c = "tuple") && decide (its.toList = [])
  | _ => false
end WB
namespace L2
open PySem
theorem Room.u1 {k : Nat} {A : Around} (r : Room k A) : A.units + 1 < cLine := by have := r.un; omega
theorem Room.u65 {k : Nat} {A : Around} (r : Room k A) : A.units + 65 < cLine := by have := r.un; omega
end L2
namespace WB
open PySem PySem.Spec PyProof.Rows L2
open PySem.W PySem.Calls
noncomputable abbrev endS (r : PySem.W.OpenRow) (M : Nat) (w : World) (os : OsState) : Option PySem.W.SharedT := HandSHeadRun.endF (HandSHeadRun.stepQ (HandSHeadRun.denQ HandSHeadRun.tabQ) r.prog w) M r.prog w os
def PartA (r : PySem.W.OpenRow) (q : Program) (M : Nat) (loose : List PySem.Str) (w : World) : Prop := ∀ os : OsState, (endS r M w os).map (fun s => (HandSHeadRun.looksF r.prog (boot_heap w.params) s.abs, HandSHeadRun.seenQ q loose (importedModules r.prog.main.body) (fun s => PySem.W.xlAt q [] s && PySem.W.recOk r.toRowW.records s) s.abs)) = some (true, PySem.W.openGood q loose)
def PartB (r : PySem.W.OpenRow) (n : Nat) (M : Nat) (w : World) (fa : List He.Fa) (fn : List He5.DefA) (ex : List Fx) : Prop := ∀ os : OsState, (endS r M w os).map (fun s => obsWG n fa fn ex (HandSHeadRun.getT s)) = some (He5.valA fn)
section
variable {r : PySem.W.OpenRow} {q : Program} {n M : Nat} {loose : List PySem.Str} {w : World}
theorem PartB.app {fa fa' : List He.Fa} {fn fn' : List He5.DefA} {ex ex' : List Fx} (h : PartB r n M w fa fn ex) (h' : PartB r n M w fa' fn' ex') : PartB r n M w (fa ++ fa') (fn ++ fn') (ex ++ ex') := fun os => by
  have a := h os
  have b := h' os
  cases e : endS r M w os with
  | none => rw [e] at a; cases a
  | some s =>
    rw [e] at a b
    have a : obsWG n fa fn ex (HandSHeadRun.getT s) = He5.valA fn := Option.some.inj a
    have b : obsWG n fa' fn' ex' (HandSHeadRun.getT s) = He5.valA fn' := Option.some.inj b
    show some (obsWG n (fa ++ fa') (fn ++ fn') (ex ++ ex') (HandSHeadRun.getT s)) = _
    unfold obsWG at a b ⊢
    generalize He.frG (HandSHeadRun.getT s) (asB (HandSHeadRun.getT s) n) = K at a b
    have a1 := congrArg (fun z : He.AlD => z.1) a
    have b1 := congrArg (fun z : He.AlD => z.1) b
    have a2 : fn.map (fun d => He5.fnA K (d.at_ K)) = fn.map He5.DefA.val := congrArg (fun z : He.AlD => z.2) a
    have b2 : fn'.map (fun d => He5.fnA K (d.at_ K)) = fn'.map He5.DefA.val := congrArg (fun z : He.AlD => z.2) b
    obtain ⟨x1, x2⟩ := He.ba (show ((fa.all fun f => f.ok K) && (ex.all (fun f => f K) && fn.all fun d => d.ok K)) = true from a1)
    obtain ⟨x2, x3⟩ := He.ba x2
    obtain ⟨y1, y2⟩ := He.ba (show ((fa'.all fun f => f.ok K) && (ex'.all (fun f => f K) && fn'.all fun d => d.ok K)) = true from b1)
    obtain ⟨y2, y3⟩ := He.ba y2
    have z : obsW (fa ++ fa') (fn ++ fn') (ex ++ ex') K = (true, (fn ++ fn').map He5.DefA.val) := by
      unfold obsW
      rw [List.all_append, List.all_append, List.all_append, x1, x2, x3, y1, y2, y3, List.map_append, a2, b2, List.map_append]
      rfl
    exact congrArg some z
theorem PartB.fns {fn fn' : List He5.DefA} (h : PartB r n M w [] fn []) (h' : PartB r n M w [] fn' []) : PartB r n M w [] (fn ++ fn') [] := h.app h'
end
end WB
namespace L2
open PySem
end L2
namespace WB
open PySem PySem.Spec PyProof.Rows L2
section
variable {prog : Program} {w : World} {A : Around} {E : Value → Shared → Prop} {s : Shared}
abbrev tupIt (l : Addr) : Obj := { cls := .type "tuple_iterator", data := .fields #[.ref l, .int 0 0] }
abbrev enumO (it : Addr) : Obj := { cls := .type "enumerate", data := .fields #[.none, .bool false, .ref it, rawInt 0, .none, .none] }
theorem meets_enumT (l : Addr) (items : Array Value) (n : Nat) (dct : Option Addr) (sl : Array (Option Value)) :
    Meets (Builtin.«enumerate.__new__» ⟨[.type "enumerate", .ref l], []⟩) (fun _ R s => s.heap.get? l = some { cls := .type "tuple", dict := dct, data := .seq items n, slots := sl } ∧
      R (.ok (.ret (.ref (s.heap.push (tupIt l)).objs.size))) { s with heap := (s.heap.push (tupIt l)).push (enumO s.heap.objs.size) }) :=
  .of_wp fun prog w A R s h => by
    obtain ⟨hp, g, d, tk, os⟩ := s
    obtain ⟨hl, h⟩ := h
    have f1 := sub_enumerate
    have hL : Heap.IsTuple (Shared.heap ⟨hp, g, d, tk, os⟩) l items := ⟨_, hl, rfl, n, rfl⟩
    wp_walk using wpAny_loadPart' hl
    refine wpAny_stack_any fun st => wpAny_pure ?_
    split
    · rename_i c _ _ _ _ _
      cases (c == Value.type "enumerate")
      · wp_walk using wpAny_loadPart' hl, wpAny_pyIter_tuple hL
        exact ⟨_, rfl, h⟩
      · wp_walk using wpAny_loadPart' hl, wpAny_pyIter_tuple hL
        exact ⟨_, rfl, h⟩
    · wp_walk using wpAny_loadPart' hl, wpAny_pyIter_tuple hL
      exact ⟨_, rfl, h⟩
theorem call_enumT {l : Addr} {items : Array Value} {Q : Value → Shared → Prop} (hL : s.heap.IsTuple l items)
    (h : ∀ h', IsEnum h' (s.heap.objs.size + 1) s.heap.objs.size 0 .none → h'.IsTupleIter s.heap.objs.size l 0 → (∀ b o, s.heap.get? b = some o → h'.get? b = some o) → Q (.ref (s.heap.objs.size + 1)) { s with heap := h' }) :
    wpAny (model prog w) A (call (.type "enumerate") [.ref l]) Q E s := by
  obtain ⟨⟨c, dct, dt, sl⟩, hl, hc, n, hd⟩ := hL
  replace hc : c = .type "tuple" := hc
  replace hd : dt = .seq items n := hd
  subst hc hd
  refine callType_new F.called_enumerate (by decide) (F.typeCall_enumerate_1 _) (F.newCall_enumerate_1 _) (fun o => F.args_object_init_2 o _) F.entry_enumerate_new (meets_enumT l items n dct sl) ⟨hl, ?_⟩
  have hz : (s.heap.push (tupIt l)).objs.size = s.heap.objs.size + 1 := Heap.size_push ..
  show _ ∧ _
  rw [hz]
  have he : IsEnum ((s.heap.push (tupIt l)).push (enumO s.heap.objs.size)) (s.heap.objs.size + 1) s.heap.objs.size 0 .none := by
    have := Heap.get?_push_size (s.heap.push (tupIt l)) (o := enumO s.heap.objs.size) rfl
    rw [hz] at this
    exact this
  exact ⟨⟨_, he, rfl⟩, h _ he ⟨_, Heap.get?_push_of_some _ (Heap.get?_push_size _ rfl), rfl, rfl⟩ fun b o x => Heap.get?_push_of_some _ (Heap.get?_push_of_some _ x)⟩
theorem enum_endT {e it l : Addr} {i : Nat} {items : Array Value} {old : Value} {Q : Option Value → Shared → Prop} (hh : A.handled = none) (he : IsEnum s.heap e it i old) (hit : s.heap.IsTupleIter it l i) (hl : s.heap.IsTuple l items) (hx : items[i]? = none)
    (k : ∀ h', Heap.ExtBut it s.heap h' → Q none { s with heap := h' }) : wpAny (model prog w) A (pyNext (.ref e)) Q E s := by
  have T : s.TypeIs (.ref e) "enumerate" := ⟨_, he, rfl⟩
  unfold pyNext
  refine wpAny_bind (wpAny_attempt (wpAny_callSpecial?_slot (name := Str.ofString "__next__") T F.slot_enumerate_next (wpAny_call_entry F.slot_enumerate_next T F.entry_enumerate_next ?_ (F.args_enumerate_next_1 _))))
  show wpAny _ _ (field (.ref e) 2 >>= _) _ _ _
  refine wpAny_bind (wpAny_field he rfl (x := .ref it) rfl (wpAny_bind (wpAny_nextOf_tuple_end hh hit hl hx fun h' x x1 x2 => ?_)))
  obtain ⟨o, ho, hc⟩ := x2
  exact wpAny_bind (wpAny_isInstance (T := "StopIteration") (b := true) ⟨o, ho, hc⟩ isSubtype_stop (wpAny_pure (k _ x1)))
end
def IteT (K : PySem.W.Frag) (a : Addr) : It :=
  ⟨fun i H => ∃ (xs : List V) (x : V), SqT K H a xs ∧ xs[i]? = some x, fun i H v H' => ∃ T x, v = .ref T ∧ H T = none ∧ H' = upd H T (.tup [.int (i : Nat), x]) ∧ ∀ xs, SqT K H a xs → xs[i]? = some x, fun i H => ∃ xs : List V, SqT K H a xs ∧ xs.length ≤ i⟩
theorem turn_enumT {P : Program} {w : World} {K : PySem.W.Frag} {elts : List Expr} {kk : Nat} {tpos : Pos} (a e it : Addr) :
    Turn P w K (.Tuple elts kk tpos) (IteT K a) [e, it] e (fun i h => (∃ old, IsEnum h e it ((i : Nat) : Int) old) ∧ h.IsTupleIter it a i ∧ e ≠ it ∧ a ≠ it ∧ e ≠ a) where
  mem := by simp
  obj := fun i h st b hb => by
    obtain ⟨⟨old, he⟩, ⟨o, ho, hc, hd⟩, _⟩ := st
    have e' : b = e ∨ b = it := by simpa using hb
    rcases e' with z | z
    · rw [z]; exact ⟨_, he, fun v q => nomatch q⟩
    · rw [z]; exact ⟨o, ho, fun v q => by rw [hd] at q; cases q⟩
  keep := fun i h h' st k => let ⟨⟨old, he⟩, hi, r⟩ := st; ⟨⟨old, k e (by simp) _ he⟩, hi.at fun o q => k it (by simp) o q, r⟩
  item := by
    intro X hP hw hK hc i pins s σ H E I hf st hg
    subst hP hw hK
    obtain ⟨⟨old, he⟩, hit, ne1, ne2, ne3⟩ := st
    obtain ⟨xs, x, hq, hx⟩ := hg
    obtain ⟨its, rv, p, hz⟩ := I.tuple hq
    obtain ⟨u, hu, ru⟩ := rv.get hx
    have hel : e < s.heap.objs.size := Heap.lt_size he
    have hil : it < s.heap.objs.size := by obtain ⟨_, q, _⟩ := hit; exact Heap.lt_size q
    have lt : i < its.toArray.size := by
      have := (List.getElem?_eq_some_iff.mp hu).1
      simpa using this
    refine wpAny_pyNext_enum_itemD (Draws.tuple (by simp [I.ok.hd hc]) it a ne2 its.toArray) he ⟨hit, p⟩ lt ne1 (by simp only [List.mem_cons, List.not_mem_nil, or_false, not_or]; exact ⟨ne1, ne3⟩) fun v h' tk hv ho hit' hT hsz hk => ?_
    have hv : its.toArray[i]? = some v := hv
    have ev : v = u := by
      have h2 : its.toArray[i]? = some u := by simpa using hu
      rw [h2] at hv
      exact (Option.some.inj hv).symm
    subst ev
    refine ⟨_, rfl, wpAny_letOwnedTupleGo_enum (s := { s with heap := h', toks := tk + 1 }) ho fun h'' he' sb => ?_⟩
    have hT2 : h''.get? s.heap.objs.size = some { cls := .type "tuple", data := .seq #[.int i tk, v] } := (sb.2 _ (Nat.ne_of_gt hel)).trans hT
    have new : ObjOk X.prog X.w (upd H s.heap.objs.size (.tup [.int (i : Nat), x])) h'' s.heap.objs.size (.tup [.int (i : Nat), x]) := ⟨by show 2 ≤ sizeLine; decide, [.int i tk, v], .cons ⟨_, rfl⟩ (.cons ru .nil), ⟨_, hT2, rfl, _, rfl⟩⟩
    have I1 : Inv X pins σ (upd H s.heap.objs.size (.tup [.int (i : Nat), x])) { s with heap := h'', toks := tk + 1 } :=
      I.turnedNew (ch := [e, it]) (fun b ob hb q => (sb.2 b (fun z => hb (by simp [z]))).trans (hk b ob (fun z => hb (by simp [z])) (fun z => hb (by simp [z])) q)) hf (Nat.le_refl _) new
    refine ⟨.ref s.heap.objs.size, _, I1, rfl, ⟨_, x, rfl, I.hok.fresh (Nat.le_refl _), rfl, fun ys hy => by rw [I.tuple_inj hy hq]; exact hx⟩, ⟨⟨v, ?_⟩, hit'.1.at fun o q => (sb.2 it (Ne.symm ne1)).trans q, ne1, ne2, ne3⟩, fun b hb => ?_⟩
    · have e1 : ((i + 1 : Nat) : Int) = (i : Int) + 1 := by omega
      rw [e1]; exact he'
    · have hb' : b < s.heap.objs.size := by
        have e' : b = e ∨ b = it := by simpa using hb
        rcases e' with z | z
        · rw [z]; exact hel
        · rw [z]; exact hil
      rw [upd_ne (Nat.ne_of_lt hb')]
      exact (hf b hb).1
  done := by
    intro X hP hw hK hc i pins s σ H E I hf st hg
    subst hP hw hK
    obtain ⟨⟨old, he⟩, hit, ne1, ne2, ne3⟩ := st
    obtain ⟨xs, hq, hx⟩ := hg
    obtain ⟨its, rv, p, hz⟩ := I.tuple hq
    obtain ⟨f0, f1, f2, f3, f4, f5⟩ := hf it (by simp)
    have hl := rv.length
    refine enum_endT (I.ok.hd hc) he hit p (by simp; omega) fun h' eb => ⟨rfl, I.turned (t' := s.toks) (fun b o hb q => eb b o hb q) f0 f1 f3 f4 f5⟩
  self := fun A i s Q E st h => let ⟨⟨_, he⟩, _⟩ := st; wpAny_pyIter_enum he h
def iEnumT (K : PySem.W.Frag) (ta : TA) : TI := fun σ H R => ta σ H fun vs H1 => ∃ a xs, vs = [.ref a] ∧ SqT K H1 a xs ∧ R (IteT K a) H1
theorem pi_enumT {X : Cx} {e : Expr} {ta : TA} {p pos tpos : Pos} {elts : List Expr} {kk : Nat} (hg : Gl X "enumerate") (hm : X.mg "enumerate" = none) (ha : PA X [e] ta) (hs : starEach [e] X.env = [(false, eval e X.env)] := by rfl) :
    PI X (.Tuple elts kk tpos) (.Call (.Name "enumerate" p) [e] [] pos) (iEnumT X.K ta) := by
  refine ⟨fun pins s σ H R I h => Call_ (ld_blt I hg hm boot_enumerate (PyProof.Rows.callWith_type1 (thn (ha.run pos pins s σ H _ I h) fun us s1 ⟨vs, H1, I1, r1, q1⟩ => ?_) hs rfl))⟩
  obtain ⟨a, xs, rfl, hq, q⟩ := q1
  obtain ⟨u, rfl, ru⟩ := vals1 r1
  cases ru
  obtain ⟨its, rv, p', hz⟩ := I1.tuple hq
  have lt : a < s1.heap.objs.size := by obtain ⟨o, ho, _⟩ := p'; exact Heap.lt_size ho
  refine call_enumT p' fun h' he hit hk => wpAny_pyIter_enum he ?_
  have I2 : Inv X pins σ H1 { s1 with heap := h' } := I1.kept (t' := s1.toks) hk
  refine ⟨s1.heap.objs.size + 1, [s1.heap.objs.size + 1, s1.heap.objs.size], _, _, H1, rfl, I2, turn_enumT a (s1.heap.objs.size + 1) s1.heap.objs.size, ⟨⟨.none, he⟩, hit, Nat.succ_ne_self _, Nat.ne_of_lt lt, Nat.ne_of_gt (Nat.lt_succ_of_lt lt)⟩, fun b hb => ?_, q⟩
  have e' : b = s1.heap.objs.size + 1 ∨ b = s1.heap.objs.size := by simpa using hb
  have hle : s1.heap.objs.size ≤ b := by
    rcases e' with z | z
    · rw [z]; exact Nat.le_succ _
    · rw [z]; exact Nat.le_refl _
  exact I1.fpOk hle (I1.hok.fresh hle)
theorem walk_enumT {K : PySem.W.Frag} {a : Addr} {xs : List V} : Walk (IteT K a) xs.length (fun H => SqT K H a xs) (YPair (fun i => some (.int (i : Nat))) (fun i => xs[i]?)) := by
  refine ⟨fun i _ hi q => ⟨xs, xs[i], q, by simp [hi]⟩, fun _ q => ⟨xs, q, Nat.le_refl _⟩, fun i H v H' _ q y => ?_⟩
  obtain ⟨T, x, h1, h2, h3, h4⟩ := y
  exact ⟨T, .int (i : Nat), x, h1, h2, h3, rfl, h4 xs q⟩
theorem s_enumT {K : PySem.W.Frag} {ta : TA} {σ : L2.St} {H : Hp} {R : It → Hp → Prop} (k : ta σ H fun vs H1 => ∃ a xs, vs = [.ref a] ∧ SqT K H1 a xs ∧ R (IteT K a) H1) : iEnumT K ta σ H R := k
theorem s_enumTA {K : PySem.W.Frag} {a : Addr} {xs : List V} {H : Hp} {C : Addr → Prop} (h : SqT K H a xs) (k : C a) : ∃ b ys, [V.ref a] = [V.ref b] ∧ SqT K H b ys ∧ C b := ⟨a, xs, rfl, h, k⟩
end WB
namespace WB
open PySem PySem.Spec PyProof.Rows L2
section
variable {X : Cx}
theorem dsetT {pins : List (Addr × Obj)} {σ : L2.St} {H : Hp} {s : Shared} {E : Value → Shared → Prop} {D b : Addr} {kvs : List (List Key × V)} {k : List Key} {v : V} {r : Value} {Q : Unit → Shared → Prop} (hu : X.A.units + 1 < cLine) (J : Inv X pins σ H s) (hD : H D = some (.dT kvs)) (hb : H b = some (.tup (k.map kV))) (hz : kvs.length < sizeLine)
    (rv : RelV v r) (q : ∀ s', Inv X pins σ (upd H D (.dT (putK kvs k v))) s' → Q () s') : wpAny (model X.prog X.w) X.A (dictSet D (.ref b) r) Q E s := by
  obtain ⟨z, y, xs, rel, dd⟩ := dt_of J.hok hD
  have hl : (putK kvs k v).length ≤ sizeLine := by have := length_putK kvs k v; omega
  refine wpAny_dictSet_heap (hsz := by rw [← Paired.length rel]; exact z) (show X.A.units < cLine by omega) (key_of J.hok hb) dd fun h' d2 sb => q _ ?_
  obtain ⟨o, es, ep, g1, g2, g3, g4, _, g5⟩ := d2
  refine d_write J (by rw [hD]; exact True.intro) sb ⟨o, g1⟩ ⟨hl, y, _, (rel.put k hb rv).keeps fun c ys ec => ?_, o, es, ep, g1, g2, g3, g4, g5⟩
  rw [upd_ne (ne_of ec hD (fun z => nomatch z))]
  exact ec
def tDcT (wi : TI) (g : TG) (tt : TT) (tk tv : TE) (vs : List Nat) : TE := fun σ H Q => wi σ H fun J H1 => ∀ D, H1 D = none → ∃ W : Nat → Nat → Hp → Prop, (∃ m, W 0 m (upd H1 D (.dT []))) ∧ ∀ i m H, W i m H →
  (J.stop i H ∧ Q (.ref D) H) ∨ (J.go i H ∧ ∃ Nx : Hp → Prop, (∀ H', Nx H' → ∃ m', m' < m ∧ W (i + 1) m' H') ∧ ∀ x H', J.yld i H x H' → g x (wipe σ vs) H' fun σ2 H2 => wipe σ2 vs = wipe σ vs ∧ tt σ2 H2 fun c H3 =>
    if c = true then tk σ2 H3 fun y H4 => tv σ2 H4 fun z H5 => ∃ kvs k b, y = .ref b ∧ H5 b = some (.tup (k.map kV)) ∧ H5 D = some (.dT kvs) ∧ kvs.length < sizeLine ∧ Nx (upd H5 D (.dT (putK kvs k z))) else Nx H3)
theorem pe_dcT {kx vx tg iter : Expr} {ifs : List Expr} {scope : Scope} {own : List (Str × Nat)} {pos : Pos} {wi : TI} {g : TG} {tt : TT} {tk tv : TE} (hc : X.calm = true) (hu : X.A.units + 1 < cLine) (hN : X.N.Nodup) (hi : PI X tg iter wi) (ok : BlkOk X.N X.env.scope scope own)
    (hg : ∀ (r : Shared) (G : Hp) (C : Addr) (cl : List (Str × Addr)) (fp : List Addr), PG (X.blk r G scope (compEnvC scope cl C X.env) fp) tg g) (ht : ∀ (r : Shared) (G : Hp) (C : Addr) (cl : List (Str × Addr)) (fp : List Addr), PTs (X.blk r G scope (compEnvC scope cl C X.env) fp) ifs tt)
    (hk : ∀ (r : Shared) (G : Hp) (C : Addr) (cl : List (Str × Addr)) (fp : List Addr), PE (X.blk r G scope (compEnvC scope cl C X.env) fp) kx tk) (hv : ∀ (r : Shared) (G : Hp) (C : Addr) (cl : List (Str × Addr)) (fp : List Addr), PE (X.blk r G scope (compEnvC scope cl C X.env) fp) vx tv)
    (hfs : ∀ x, foldedSetIterable iter X.env x = pure x := by intro _; rfl) : PE X (.DictComp kx vx [⟨tg, iter, ifs, 0⟩] scope pos) (tDcT wi g tt tk tv (own.map (·.2))) := by
  refine ⟨fun pins s σ H Q I0 h => ?_⟩
  rw [arm_eval_DictComp]
  have free : ∀ y ∈ scope.names, y.2 = .free → ∃ c, X.env.cells.lookup y.1 = some c := fun y hy e => (ok.free y hy e).elim (fun k => I0.ok.has _ (.inl k)) fun k => I0.ok.has _ (.inr k)
  refine wpAny_comprehension_free rfl hfs (closure_ok free) ok.kind (fun y hy e => by rw [ok.uniq y hy, e]) (thn (hi.run pins s σ H _ I0 h) fun _ r1 hx => thn hx fun _ r2 h2 => ?_)
  obtain ⟨it, fp, tn, J, G2, rfl, I2, T, t2, f2, q⟩ := h2
  refine wpAny_newObj_type (newEnv_comp ?_)
  obtain ⟨W, ⟨m0, w0⟩, turn⟩ := q r2.heap.objs.size (I2.hok.fresh (Nat.le_refl _))
  generalize er3 : ({ r2 with heap := r2.heap.push { cls := .type "dict", data := .dict #[] } } : Shared) = r3
  have I3 : Inv X pins σ (upd G2 r2.heap.objs.size (.dT [])) r3 := by
    subst er3
    exact I2.laid (t' := r2.toks) (fun b o e => Heap.get?_push_of_some _ e) (Nat.le_refl _) (dt_empty r2.heap I2.big)
  have up3 : ∀ b o, r2.heap.get? b = some o → r3.heap.get? b = some o := fun b o e => by subst er3; exact Heap.get?_push_of_some _ e
  have lt2 : ∀ b ∈ fp, b < r2.heap.objs.size := fun b hb => let ⟨_, e, _⟩ := T.obj _ _ t2 b hb; Heap.lt_size e
  have f3 : ∀ b ∈ fp, FpOk X pins (upd G2 r2.heap.objs.size (.dT [])) b ∧ b < r3.heap.objs.size := fun b hb =>
    ⟨⟨by rw [upd_ne (Nat.ne_of_lt (lt2 b hb))]; exact (f2 b hb).1, (f2 b hb).2⟩, let ⟨_, e, _⟩ := T.obj _ _ t2 b hb; Heap.lt_size (up3 b _ e)⟩
  have B4 := block_start I3 ok hN f3
  have n3 : ∀ b ∈ fp, (upd G2 r2.heap.objs.size (.dT [])) b = none := fun b hb => (f3 b hb).1.1
  have t3 : tn 0 r3.heap := T.keep _ _ _ t2 fun b _ o e => up3 b o e
  generalize r2.heap.objs.size = D at *
  generalize upd G2 D (.dT []) = G3 at *
  have p1 := hg r3 G3 r3.heap.objs.size (cellsFrom (r3.heap.objs.size + 1) scope.names (cloFrom X.env.cells scope.names [])) fp
  have p2 := ht r3 G3 r3.heap.objs.size (cellsFrom (r3.heap.objs.size + 1) scope.names (cloFrom X.env.cells scope.names [])) fp
  have p3 := hk r3 G3 r3.heap.objs.size (cellsFrom (r3.heap.objs.size + 1) scope.names (cloFrom X.env.cells scope.names [])) fp
  have p4 := hv r3 G3 r3.heap.objs.size (cellsFrom (r3.heap.objs.size + 1) scope.names (cloFrom X.env.cells scope.names [])) fp
  show codeAny _ _ (.compStart _ 0 (.ref it) (.ref D) (compEnvC scope (cellsFrom (r3.heap.objs.size + 1) scope.names (cloFrom X.env.cells scope.names [])) r3.heap.objs.size X.env)) _ { r3 with heap := pushCells (r3.heap.push { cls := .type "dict", data := .dict #[] }) scope.names }
  have eL : (compEnvC scope (cellsFrom (r3.heap.objs.size + 1) scope.names (cloFrom X.env.cells scope.names [])) r3.heap.objs.size X.env).locals = r3.heap.objs.size := rfl
  generalize compEnvC scope (cellsFrom (r3.heap.objs.size + 1) scope.names (cloFrom X.env.cells scope.names [])) r3.heap.objs.size X.env = ce at B4 p1 p2 p3 p4 eL ⊢
  have t4 : tn 0 (pushCells (r3.heap.push { cls := .type "dict", data := .dict #[] }) scope.names) := T.keep _ _ _ t3 fun b _ o e => pushCells_keeps _ _ _ _ (Heap.get?_push_of_some _ e)
  generalize er4 : ({ r3 with heap := pushCells (r3.heap.push { cls := .type "dict", data := .dict #[] }) scope.names } : Shared) = r4 at B4 ⊢
  have t4' : tn 0 r4.heap := by rw [← er4]; exact t4
  have fpk : ∀ {τ : L2.St} {G : Hp} {r : Shared}, Inv (X.blk r3 G3 scope ce fp) [] τ G r → (∀ b ∈ fp, G b = none) → ∀ b ∈ fp, FpOk (X.blk r3 G3 scope ce fp) [] G b := fun {τ G r} B hn b hb =>
    ⟨hn b hb, (B.ok.exf b hb).1, B.ok.exfs b hb, .inl hb, fun x c e => (B.ok.exf b hb).2 x c e, fun p hp => absurd (show p ∈ ([] : List (Addr × Obj)) ++ [] from hp) (by simp)⟩
  refine codeAny_compStart_dict ?loop (T.self X.A 0 _ _ _ t4' ?loop)
  case loop =>
    refine compLoop_anyD (fun n r => ∃ i G, Inv (X.blk r3 G3 scope ce fp) [] (wipe σ (own.map (·.2))) G r ∧ tn i r.heap ∧ (∀ b ∈ fp, G b = none) ∧ W i n G) ?_ m0 ⟨0, G3, B4, t4', n3, w0⟩
    rintro n r5 ⟨i, G5, B5, t5, n5, w5⟩
    rcases turn i n G5 w5 with ⟨stop, fin⟩ | ⟨go, Nx, hNx, step⟩
    · refine thnF (T.done (X.blk r3 G3 scope ce fp) rfl rfl rfl hc i [] r5 _ G5 (fun _ _ => False) B5 (fpk B5 n5) t5 stop) fun o r6 ⟨eo, B6⟩ => ?_
      subst eo
      have I7 : Inv X pins σ G5 r6 := I3.call' (ch := fp) B6.os B6.base B6.hok B6.bare fun b hb => let z := (f3 b hb).1.2; ⟨z.2.2.1, z.1, z.2.2.2.1, z.2.2.2.2⟩
      obtain ⟨m, hn, _⟩ := B6.loc
      have fr : G5 ce.locals = none := B6.free
      have hn : r6.heap.Ns ce.locals m := hn
      rw [eL] at fr hn
      obtain ⟨f0, f1, _, g3, g4, g5⟩ := I3.fpOk (Nat.le_refl _) fr
      exact ⟨m, hn, fun h'' sb => ⟨.ref D, G5, I7.turned (t' := r6.toks) (fun b o hb e => (sb.2 b hb).trans e) f0 f1 g3 g4 g5, rfl, fin⟩⟩
    · refine thnF (T.item (X.blk r3 G3 scope ce fp) rfl rfl rfl hc i [] r5 _ G5 (fun _ _ => False) B5 (fpk B5 n5) t5 go) fun o r6 ⟨u, eo, h6⟩ => ?_
      subst eo
      refine thnF h6 fun _ r7 ⟨x, G7, B7, rx, y7, t7, n7⟩ => ?_
      refine thnF (p1.run _ r7 _ G7 x u _ (B7.pinned (fpk B7 n7) (T.obj _ _ t7)) rx (step x G7 y7)) fun _ r8 ⟨τ, G8, B8, hw, q8⟩ => ?_
      refine thnF (p2.run _ r8 τ G8 _ B8 q8) fun c r9 ⟨G9, B9, q9⟩ => ?_
      have back : ∀ {r : Shared} {G : Hp}, Inv (X.blk r3 G3 scope ce fp) ([] ++ pinsAt fp r7.heap) τ G r → Nx G → ∃ m, m < n ∧ ∃ i G, Inv (X.blk r3 G3 scope ce fp) [] (wipe σ (own.map (·.2))) G r ∧ tn i r.heap ∧ (∀ b ∈ fp, G b = none) ∧ W i m G := fun {r G} B nx => by
        obtain ⟨m', lt, w'⟩ := hNx G nx
        have pin : ∀ b ∈ fp, ∀ o, r7.heap.get? b = some o → r.heap.get? b = some o ∧ G b = none := fun b hb o e => let z := B.pin (b, o) (List.mem_append_right _ (List.mem_append_right _ (mem_pinsAt hb e))); ⟨z.1, z.2.1⟩
        refine ⟨m', lt, i + 1, G, (B.unpinned (pins := [])).weak (by rw [← hw, wipe_length]) (fun j v e => ?_), T.keep _ _ _ t7 fun b hb o e => (pin b hb o e).1, fun b hb => let ⟨o, e, _⟩ := T.obj _ _ t7 b hb; (pin b hb o e).2, w'⟩
        rw [← hw] at e
        exact (wipe_some e).1
      cases c with
      | false => exact back B9 (by simpa using q9)
      | true =>
        have q9 := (show tk τ G9 _ by simpa using q9)
        refine thnF (p3.run _ r9 τ G9 _ B9 q9) fun z r10 ⟨yk, G10, B10, ry, q10⟩ => ?_
        refine thnF (p4.run _ r10 τ G10 _ B10 q10) fun z2 r11 ⟨yv, G11, B11, rz, kvs, k, b, ek, hb, hD, hz, nx⟩ => ?_
        subst ek
        cases ry
        exact dsetT (X := X.blk r3 G3 scope ce fp) hu B11 hD hb hz rz fun r12 B12 => back B12 nx
end
end WB
namespace WB
open PySem PySem.Spec PyProof.Rows L2
def pick1 {α : Type} (k i : Nat) (vs ds mz zs : List α) : Option α := match k with
  | 0 => vs[i]?
  | 1 => ds[i]?
  | 2 => zs[i]?
  | _ => mz[i]?
def selG {α : Type} : List (Nat × Nat) → List α → List α → List α → List α → List α
  | [], _, _, _, _ => []
  | (k, i) :: ss, vs, ds, mz, zs => (pick1 k i vs ds mz zs).toList ++ selG ss vs ds mz zs
theorem vals_opt {vs : List V} {us : List Value} (r : Vals vs us) (i : Nat) : (vs[i]? = none ∧ us[i]? = none) ∨ ∃ v u, vs[i]? = some v ∧ us[i]? = some u ∧ RelV v u := by
  cases h : vs[i]? with
  | none =>
    refine .inl ⟨rfl, ?_⟩
    rw [List.getElem?_eq_none_iff] at h ⊢
    rw [← r.length]; exact h
  | some v =>
    obtain ⟨u, h1, h2⟩ := r.get h
    exact .inr ⟨v, u, rfl, h1, h2⟩
theorem opt_rel {vs : List V} {us : List Value} (r : Vals vs us) (i : Nat) : Vals vs[i]?.toList us[i]?.toList := by
  rcases vals_opt r i with ⟨e1, e2⟩ | ⟨v, u, e1, e2, rv⟩
  · rw [e1, e2]; exact .nil
  · rw [e1, e2]; exact .cons rv .nil
theorem sel_rel : ∀ (ss : List (Nat × Nat)) {vs ds mz zs : List V} {us its mv ws : List Value}, Vals vs us → Vals ds its → Vals mz mv → Vals zs ws → Vals (selG ss vs ds mz zs) (selG ss us its mv ws)
  | [], _, _, _, _, _, _, _, _, _, _, _, _ => .nil
  | (0, i) :: ss, _, _, _, _, _, _, _, _, r1, r2, r3, r4 => (opt_rel r1 i).append (sel_rel ss r1 r2 r3 r4)
  | (1, i) :: ss, _, _, _, _, _, _, _, _, r1, r2, r3, r4 => (opt_rel r2 i).append (sel_rel ss r1 r2 r3 r4)
  | (2, i) :: ss, _, _, _, _, _, _, _, _, r1, r2, r3, r4 => (opt_rel r4 i).append (sel_rel ss r1 r2 r3 r4)
  | (_ + 3, i) :: ss, _, _, _, _, _, _, _, _, r1, r2, r3, r4 => (opt_rel r3 i).append (sel_rel ss r1 r2 r3 r4)
section
variable {K : PySem.W.Frag} {x qual : Str} {params : Arguments} {body : List Stmt} {scope : Scope} {dvs : List V} {kws : List (Str × V)} {f : Addr} {fd : FuncData} {ps : List Str}
theorem kbnD (F : FunD K x qual params body scope dvs kws f fd) (n : Nat) (ks : List Str) (ss : List (Nat × Nat)) (hd : dvs ≠ [])
    (h : ∀ (T : Addr) (kV doc pm : Value) (an : Option Addr) (cdv ct : Value) (us its ws : List Value), us.length = n → its.length = dvs.length → ws.length = ks.length →
      ∃ k, bindArgs (PySem.W.fnOf x qual params body scope (.ref T) kV doc pm an cdv ct) ⟨us, ks.zip ws⟩ = seqItems? (.ref T) >>= k ∧ k (some its.toArray) = pure (ps.zip (selG ss us its [] ws))) :
    ∃ g, KBn K fd ps n ks g (fun vs zs => selG ss vs dvs [] zs) := by
  obtain ⟨its, hb⟩ := FunD.kbindsD F n ks (fun vs ds zs => selG ss vs ds [] zs) hd (fun r1 r2 r3 => sel_rel ss r1 r2 .nil r3) h
  exact ⟨_, hb⟩
end
def MakeKG (C : Addr) (n m : Nat) (sp : Sp) (gV : List V → List V → List V) (E : XK) (vs zs : List V) (H : Hp) (Q : VK) : Prop := vs.length = n ∧ zs.length = m ∧ ∀ x dx, H x = none → H dx = none → dx ≠ x → sp (gV (.ref x :: vs) zs) (upd (upd H dx (.own x)) x (.ins C dx [])) (fun v H3 => v = .non ∧ Q (.ref x) H3) E
theorem s_makeK {C : Addr} {n m : Nat} {sp : Sp} {gV : List V → List V → List V} {E : XK} {t tk : TA} {σ : L2.St} {H : Hp} {Q : VK} (k : t σ H fun vs H1 => tk σ H1 fun zs H2 => MakeKG C n m sp gV E vs zs H2 Q) : tMakeK C n m sp gV E t tk σ H Q := k
end WB
namespace WB
open PySem PySem.Spec PyProof.Rows L2 ClX
section
variable {X : Cx} {CX : CXT} {k n : Nat} {C p g : Addr} {fd : FuncData} {ps ks : List Str} {mc : Value} {sp : Sp} {E : XK} {o e : Expr} {es : List Expr} {f m x : Str} {pos apos q1 : Pos} {ta : TE} {t tk : TA} {pl : Sem Bool} {kws : List Keyword} {gS : List Value → List Value → List Value} {gV : List V → List V → List V} {dvs : List V} {ds : List Value}
def tCMethK (C : Addr) (n : Nat) (sp : Sp) (gV : List V → List V → List V) (E : XK) (ta : TE) (tk : TA) : TE := fun σ H Q => ta σ H fun x H1 => x = .ref C ∧ tk σ H1 fun zs H2 => zs.length = n ∧ sp (gV [.ref C] zs) H2 Q E
def tMakeL (i : Nat) (C : Addr) (sp : Sp) (dvs : List V) (E : XK) (t : TA) : TE := fun σ H Q => σ[i]? = some (some (.ref C)) ∧ t σ H fun vs H1 => ∀ x dx, H1 x = none → H1 dx = none → dx ≠ x → sp (.ref x :: (vs ++ dvs)) (upd (upd H1 dx (.own x)) x (.ins C dx [])) (fun v H2 => v = .non ∧ Q (.ref x) H2) E
theorem pe_makeL {i : Nat} {fI : Addr} (M : Mk X.K C fI) (F : FnOk X.prog X.w X.K X.mg X.base CX k fI fd ps sp) (hr : Room (k + 1) X.A) (hN : X.N[i]? = some x) (hv : Vis X.env.scope x) (hb : Binds X.K fd ps ds) (hd : Vals dvs ds) (hx : Passes CX X E) (ha : PA X (e :: es) t)
    (hdb : (x == ("__debug__" : Str)) = false := by decide) (hcd : (x == ("__classdict__" : Str)) = false := by decide)
    (he : starEach (e :: es) X.env = (false, eval e X.env) :: starEach es X.env := by rfl) (hpl : (backTo pos (starEach es X.env)).any (·.1) = false := by rfl) : PE X (.Call (.Name x q1) (e :: es) [] pos) (tMakeL i C sp dvs E t) := by
  refine ⟨fun pins s σ H Q I h => ?_⟩
  obtain ⟨hs, ht⟩ := h
  refine wpAny_Call_Name_kw (thn ((pe_var (pos := q1) hN hv hdb hcd).run pins s σ H (fun v H1 => v = .ref C ∧ H1 = H) I ⟨.ref C, hs, rfl, rfl⟩) fun u s1 ⟨v, H1, I1, r1, z⟩ => ?_)
  obtain ⟨rfl, rfl⟩ := z
  cases r1
  refine PySem.W.callWith_K (h₀ := X.base) I.ok.mod.kin M.kp (thn (ha.run pos pins s1 σ _ _ I1 ht) fun us s2 ⟨vs, H2, I2, r, q⟩ => ⟨I2.kIn, ?_⟩) he hpl
  exact run_make M F hr hb hd hx I2 r q
end
end WB
namespace WB
open PySem PySem.Spec PyProof.Rows L2
def rNotInKd (K : PySem.W.Frag) (w : World) : R2 := fun x y H Q => ∃ (z : Str) (d : Addr) (r : Option Value), x = .str z ∧ y = .ref d ∧ (∃ es n, KDict K w d es n) ∧ PySem.W.nsIn K d z = some r ∧ Q (.bl (!r.isSome)) H
theorem op_notInKd {X : Cx} : OpR X (compareOp .NotIn) (rNotInKd X.K X.w) := by
  intro pins s σ H x y v u Q I rx ry h
  obtain ⟨z, d, r, ex, ey, ⟨es, n, D⟩, e, q⟩ := h
  exact op_notIn_kd D pins s σ H x y v u Q I rx ry ⟨z, r, ex, ey, e, q⟩
def KdE (K : PySem.W.Frag) (w : World) (d : Addr) (z : Str) (v : V) : Prop := (∃ es n, KDict K w d es n) ∧ ∃ u, PySem.W.nsIn K d z = some (some u) ∧ RelV v u
theorem KdE.ct {K : PySem.W.Frag} {w : World} {d : Addr} {z : Str} {v : V} (h : KdE K w d z v) : KDct K w d z v := by
  obtain ⟨⟨es, n, D⟩, u, e, r⟩ := h
  exact ⟨es, n, u, D.at_, D.lit, e, r⟩
theorem s_notInKd {K : PySem.W.Frag} {w : World} {z : Str} {d : Addr} {v : V} {H : Hp} {Q : VK} (h : KdE K w d z v) (k : Q (.bl false) H) : rNotInKd K w (.str z) (.ref d) H Q := by
  obtain ⟨D, u, e, r⟩ := h
  exact ⟨z, d, some u, rfl, rfl, D, e, k⟩
theorem s_ixKd {K : PySem.W.Frag} {w : World} {z : Str} {d : Addr} {v : V} {H : Hp} {Q : VK} (h : KdE K w d z v) (k : Q v H) : rIxD K w (.ref d) (.str z) H Q := ⟨d, z, v, rfl, rfl, h.ct, k⟩
theorem kdE_of {K : PySem.W.Frag} {w : World} {a : Addr} {kvs : List (Str × He.Dv)} (D : ∃ es n, KDict K w a es n) (h : He.valsB K a kvs = true) {q : Str × He.Dv} (hq : q ∈ kvs) : KdE K w a q.1 (q.2.v K) := by
  obtain ⟨u, e, r⟩ := He.valsB_ok h hq
  exact ⟨D, u, e, r⟩
def tCallL (i : Nat) (f : Addr) (sp : Sp) (E : XK) (t : TA) : TE := fun σ H Q => σ[i]? = some (some (.ref f)) ∧ t σ H fun vs H1 => sp (vs ++ []) H1 Q E
section
variable {X : Cx} {CX : CXT} {k : Nat} {f : Addr} {fd : FuncData} {ps : List Str} {sp : Sp} {E : XK} {e : Expr} {es : List Expr} {x : Str} {pos q1 : Pos} {t : TA}
theorem pe_callL {i : Nat} (F : FnOk X.prog X.w X.K X.mg X.base CX k f fd ps sp) (hr : Room k X.A) (hN : X.N[i]? = some x) (hv : Vis X.env.scope x) (hk : PySem.W.keepIn X.K (.ref f) = true) (hb : Binds X.K fd ps []) (hx : Passes CX X E) (ha : PA X (e :: es) t)
    (hdb : (x == ("__debug__" : Str)) = false := by decide) (hcd : (x == ("__classdict__" : Str)) = false := by decide)
    (he : starEach (e :: es) X.env = (false, eval e X.env) :: starEach es X.env := by rfl) (hpl : (backTo pos (starEach es X.env)).any (·.1) = false := by rfl) : PE X (.Call (.Name x q1) (e :: es) [] pos) (tCallL i f sp E t) := by
  refine ⟨fun pins s σ H Q I h => ?_⟩
  obtain ⟨hs, ht⟩ := h
  refine wpAny_Call_Name_kw (thn ((pe_var (pos := q1) hN hv hdb hcd).run pins s σ H (fun v H1 => v = .ref f ∧ H1 = H) I ⟨.ref f, hs, rfl, rfl⟩) fun u s1 ⟨v, H1, I1, r1, z⟩ => ?_)
  obtain ⟨rfl, rfl⟩ := z
  cases r1
  refine PySem.W.callWith_K (h₀ := X.base) I.ok.mod.kin hk (thn (ha.run pos pins s1 σ _ _ I1 ht) fun us s2 ⟨vs, H2, I2, r, q⟩ => ⟨I2.kIn, ?_⟩) he hpl
  exact run_fn F hr hb .nil hx I2 r q
end
end WB
namespace WB
open PySem PySem.Spec PyProof.Rows L2
open PySem.W PySem.Calls
abbrev AlT' : Type := He.AlD × List (Option (List (Option (Str × Int))))
def TabsOk (ts : List He.Tab) (w : World) (K : Fr') : Prop := (ts.map fun t => He.dicW K (t.1 K)) = ts.map fun t => some (He.keysIn w.params t.2)
def obsTb (n : Nat) (ts : List He.Tab) (g : Addr → Option Obj) : List (Option (List (Option (Str × Int)))) := (fun K : Fr' => ts.map fun t => He.dicW K (t.1 K)) (He.frG g (asB g n))
def obsDG (n : Nat) (fa : List He.Fa) (fn : List He5.DefA) (ex : List Fx) (ts : List He.Tab) (g : Addr → Option Obj) : AlT' := (obsWG n fa fn ex g, obsTb n ts g)
def hookD (n : Nat) (fa : List He.Fa) (fn : List He5.DefA) (ex : List Fx) (ts : List He.Tab) : PySem.W.Hook where
  α := AlT'
  obs := fun s => obsDG n fa fn ex ts s.heap.get?
  val := fun w => (He5.valA fn, ts.map fun t => some (He.keysIn w.params t.2))
  says := fun w h => ∃ K : Fr', K.In h ∧ SaysW fa fn ex K ∧ TabsOk ts w K
  of := fun w s e => ⟨He.frG s.heap.get? (asB s.heap.get? n), He.frG_in, by
    have z := congrArg Prod.fst e
    exact z, by
    have z := congrArg Prod.snd e
    exact z⟩
  keeps := fun _ _ _ ⟨K, hK, c⟩ k => ⟨K, PySem.W.Frag.In.keeps hK k, c⟩
theorem obsDG_eq {n : Nat} {fa : List He.Fa} {fn : List He5.DefA} {ex : List Fx} {ts : List He.Tab} {g : Addr → Option Obj} {s : Shared} (h : ∀ a, g a = s.heap.get? a) : obsDG n fa fn ex ts g = (hookD n fa fn ex ts).obs s := by
  have e : g = s.heap.get? := funext h
  rw [e] <;> rfl
theorem TabsOk.tab {ts : List He.Tab} {w : World} {K : Fr'} (c : TabsOk ts w K) (i : Nat) {t : He.Tab} (h : ts[i]? = some t := by rfl) : ∃ es n, KDict K w (t.1 K) es n := by
  have e2 : (ts.map fun t => He.dicW K (t.1 K))[i]? = (ts.map fun t => some (He.keysIn w.params t.2))[i]? := by rw [c]
  rw [List.getElem?_map, List.getElem?_map, h] at e2
  exact He.dicW_ok (Option.some.inj e2)
def PartT (r : PySem.W.OpenRow) (n : Nat) (M : Nat) (w : World) (ts : List He.Tab) : Prop := ∀ os : OsState, (endS r M w os).map (fun s => obsTb n ts (HandSHeadRun.getT s)) = some (ts.map fun t => some (He.keysIn w.params t.2))
theorem run_ofD {r : PySem.W.OpenRow} {q : Program} {n M : Nat} {loose : List PySem.Str} {w : World} {fa : List He.Fa} {fn : List He5.DefA} {ex : List Fx} {ts : List He.Tab} (h : PartA r q M loose w) (h' : PartB r n M w fa fn ex) (h2 : PartT r n M w ts) : HandSHeadRun.RunEq r q (hookD n fa fn ex ts) (fun s => obsDG n fa fn ex ts (HandSHeadRun.getT s)) M loose w := fun os => by
  have a := h os
  have b := h' os
  have c := h2 os
  show (endS r M w os).map _ = _
  cases e : endS r M w os with
  | none => rw [e] at a; cases a
  | some s =>
    rw [e] at a b c
    have a := Option.some.inj a
    have b : obsWG n fa fn ex (HandSHeadRun.getT s) = He5.valA fn := Option.some.inj b
    have c : obsTb n ts (HandSHeadRun.getT s) = ts.map fun t => some (He.keysIn w.params t.2) := Option.some.inj c
    have a1 := congrArg Prod.fst a
    have a2 := congrArg Prod.snd a
    have a1 : HandSHeadRun.looksF r.prog (boot_heap w.params) s.abs = true := a1
    have a2 : HandSHeadRun.seenQ q loose (importedModules r.prog.main.body) (fun s => PySem.W.xlAt q [] s && PySem.W.recOk r.toRowW.records s) s.abs = PySem.W.openGood q loose := a2
    show some (HandSHeadRun.looksF r.prog (boot_heap w.params) s.abs, HandSHeadRun.seenQ q loose (importedModules r.prog.main.body) (fun s => PySem.W.xlAt q [] s && PySem.W.recOk r.toRowW.records s) s.abs, obsDG n fa fn ex ts (HandSHeadRun.getT s)) = _
    unfold obsDG
    rw [a1, a2, b, c]
    rfl
def ftB (b : Bool) (f : String → Bool) : String → Bool := fun s => match (decide (s = "special-get-raises") : Bool) with | true => b | false => f s
theorem ftB_eq (f : String → Bool) : ftB (f "special-get-raises") f = f := by
  funext s
  unfold ftB
  by_cases h : s = "special-get-raises"
  · rw [decide_eq_true h, h]
  · rw [decide_eq_false h]
def wB (b : Bool) (w : World) : World := { w with params := { w.params with followText := ftB b w.params.followText } }
theorem wB_eq (w : World) : wB (w.params.followText "special-get-raises") w = w := by
  unfold wB
  rw [ftB_eq]
theorem PartB.two {r : PySem.W.OpenRow} {n M : Nat} {w : World} {fa : List He.Fa} {fn : List He5.DefA} {ex : List Fx} (h1 : PartB r n M w fa [] ex) (h2 : PartB r n M w [] fn []) : PartB r n M w fa fn ex := by
  have h := h1.app h2
  simp only [List.append_nil, List.nil_append] at h
  exact h
end WB
namespace WB
open PySem PySem.Spec PyProof.Rows L2
def top (i : Nat) : Stmt := PySem.Challenge.pw_wherebegun_k70_differences_judged.main.body.getD i (.Pass ⟨0, 0, 0, 0⟩)
abbrev st_is_integer : Stmt := top 32
abbrev st_is_within : Stmt := top 33
abbrev st_is_name : Stmt := top 34
abbrev st_is_word : Stmt := top 35
abbrev st_is_row : Stmt := top 36
abbrev st_least_turning : Stmt := top 39
abbrev st_Ring_init : Stmt := inClass (top 40) 0
abbrev st_Ring_text : Stmt := inClass (top 40) 1
abbrev st_Ring_eq : Stmt := inClass (top 40) 8
abbrev st_check_signs : Stmt := top 42
abbrev st_check_pairs : Stmt := top 43
abbrev st_Kind_init : Stmt := inClass (top 46) 0
abbrev st_Kind_signs : Stmt := inClass (top 46) 2
abbrev st_Kind_row : Stmt := inClass (top 46) 4
abbrev st_Kind_made : Stmt := inClass (top 46) 1
abbrev st_Kind_closes : Stmt := inClass (top 46) 5
abbrev st_Kind_contains : Stmt := inClass (top 46) 9
abbrev st_place_of : Stmt := top 48
abbrev st_is_step : Stmt := top 49
abbrev st_is_turn : Stmt := top 50
abbrev st_check_states : Stmt := top 52
abbrev st_check_rows : Stmt := top 53
abbrev st_check_turns : Stmt := top 54
abbrev st_check_yes : Stmt := top 55
abbrev st_Loop_init : Stmt := inClass (top 59) 0
abbrev st_Loop_signs : Stmt := inClass (top 59) 2
abbrev st_Loop_rows : Stmt := inClass (top 59) 4
abbrev st_Loop_turns : Stmt := inClass (top 59) 5
abbrev st_Loop_row : Stmt := inClass (top 59) 7
abbrev st_Loop_made : Stmt := inClass (top 59) 1
abbrev st_Loop_round_from : Stmt := inClass (top 59) 8
abbrev st_Loop_history : Stmt := inClass (top 59) 9
abbrev st_Loop_answer : Stmt := inClass (top 59) 11
abbrev st_is_lap : Stmt := top 84
abbrev st_shows_differ : Stmt := top 86
abbrev st_loop_of : Stmt := top 66
abbrev st_kind_of : Stmt := top 67
abbrev st_accepts : Stmt := top 93
abbrev st_law7_cell : Stmt := top 95
abbrev st_law7_purse : Stmt := top 96
abbrev st_law7_pick : Stmt := top 97
abbrev st_law_wholeK : Stmt := top 98
abbrev st_law7_amount : Stmt := top 99
abbrev st_law7_signs : Stmt := top 100
abbrev st_law7_wider : Stmt := top 101
abbrev st_law7_model : Stmt := top 102
abbrev st_law7_tags : Stmt := top 103
abbrev st_law7_row : Stmt := top 104
abbrev st_law7_pairs : Stmt := top 105
abbrev st_law7_words : Stmt := top 106
abbrev st_law7_answers : Stmt := top 107
abbrev st_law7_near : Stmt := top 108
abbrev st_law7_answer : Stmt := top 109
abbrev st_law7_odd : Stmt := top 110
abbrev st_law7_bent : Stmt := top 111
abbrev st_law7_is_ring : Stmt := top 112
abbrev st_law7_turns : Stmt := top 113
abbrev st_law7_is_word : Stmt := top 114
abbrev st_law7_is_lap : Stmt := top 115
abbrev st_law7_lap : Stmt := top 116
abbrev st_law7_accepted : Stmt := top 117
abbrev st_law7_due : Stmt := top 118
abbrev st_law7_right : Stmt := top 119
abbrev st_law : Stmt := top 120
def d_is_integer : He5.DefA := ⟨fun K => (He.ga K "is_integer"), "is_integer", "is_integer", defArgs st_is_integer, defBody st_is_integer, defScope st_is_integer, [], []⟩
def d_is_within : He5.DefA := ⟨fun K => (He.ga K "is_within"), "is_within", "is_within", defArgs st_is_within, defBody st_is_within, defScope st_is_within, [], []⟩
def d_is_name : He5.DefA := ⟨fun K => (He.ga K "is_name"), "is_name", "is_name", defArgs st_is_name, defBody st_is_name, defScope st_is_name, [], []⟩
def d_is_word : He5.DefA := ⟨fun K => (He.ga K "is_word"), "is_word", "is_word", defArgs st_is_word, defBody st_is_word, defScope st_is_word, [.str "abcdefghijklmnopqrstuvwxyz"], []⟩
def d_is_row : He5.DefA := ⟨fun K => (He.ga K "is_row"), "is_row", "is_row", defArgs st_is_row, defBody st_is_row, defScope st_is_row, [], []⟩
def d_least_turning : He5.DefA := ⟨fun K => (He.ga K "least_turning"), "least_turning", "least_turning", defArgs st_least_turning, defBody st_least_turning, defScope st_least_turning, [], []⟩
def d_Ring_init : He5.DefA := ⟨fun K => (He.ma K (He.ga K "Ring") "__init__"), "__init__", "Ring.__init__", defArgs st_Ring_init, defBody st_Ring_init, defScope st_Ring_init, [], []⟩
def d_Ring_text : He5.DefA := ⟨fun K => (He5.wf K (He.ga K "Ring") "property" "text"), "text", "Ring.text", defArgs st_Ring_text, defBody st_Ring_text, defScope st_Ring_text, [], []⟩
def d_Ring_eq : He5.DefA := ⟨fun K => (He.ma K (He.ga K "Ring") "__eq__"), "__eq__", "Ring.__eq__", defArgs st_Ring_eq, defBody st_Ring_eq, defScope st_Ring_eq, [], []⟩
def d_check_signs : He5.DefA := ⟨fun K => (He.ga K "check_signs"), "check_signs", "check_signs", defArgs st_check_signs, defBody st_check_signs, defScope st_check_signs, [], []⟩
def d_check_pairs : He5.DefA := ⟨fun K => (He.ga K "check_pairs"), "check_pairs", "check_pairs", defArgs st_check_pairs, defBody st_check_pairs, defScope st_check_pairs, [], []⟩
def d_Kind_init : He5.DefA := ⟨fun K => (He.ma K (He.ga K "Kind") "__init__"), "__init__", "Kind.__init__", defArgs st_Kind_init, defBody st_Kind_init, defScope st_Kind_init, [.non], []⟩
def d_Kind_signs : He5.DefA := ⟨fun K => (He5.wf K (He.ga K "Kind") "property" "signs"), "signs", "Kind.signs", defArgs st_Kind_signs, defBody st_Kind_signs, defScope st_Kind_signs, [], []⟩
def d_Kind_row : He5.DefA := ⟨fun K => (He5.wf K (He.ga K "Kind") "property" "row"), "row", "Kind.row", defArgs st_Kind_row, defBody st_Kind_row, defScope st_Kind_row, [], []⟩
def d_Kind_made : He5.DefA := ⟨fun K => (He5.wf K (He.ga K "Kind") "classmethod" "made"), "made", "Kind.made", defArgs st_Kind_made, defBody st_Kind_made, defScope st_Kind_made, [], []⟩
def d_Kind_closes : He5.DefA := ⟨fun K => (He.ma K (He.ga K "Kind") "closes"), "closes", "Kind.closes", defArgs st_Kind_closes, defBody st_Kind_closes, defScope st_Kind_closes, [], []⟩
def d_Kind_contains : He5.DefA := ⟨fun K => (He.ma K (He.ga K "Kind") "__contains__"), "__contains__", "Kind.__contains__", defArgs st_Kind_contains, defBody st_Kind_contains, defScope st_Kind_contains, [], []⟩
def d_place_of : He5.DefA := ⟨fun K => (He.ga K "place_of"), "place_of", "place_of", defArgs st_place_of, defBody st_place_of, defScope st_place_of, [], []⟩
def d_is_step : He5.DefA := ⟨fun K => (He.ga K "is_step"), "is_step", "is_step", defArgs st_is_step, defBody st_is_step, defScope st_is_step, [], []⟩
def d_is_turn : He5.DefA := ⟨fun K => (He.ga K "is_turn"), "is_turn", "is_turn", defArgs st_is_turn, defBody st_is_turn, defScope st_is_turn, [], []⟩
def d_check_states : He5.DefA := ⟨fun K => (He.ga K "check_states"), "check_states", "check_states", defArgs st_check_states, defBody st_check_states, defScope st_check_states, [], []⟩
def d_check_rows : He5.DefA := ⟨fun K => (He.ga K "check_rows"), "check_rows", "check_rows", defArgs st_check_rows, defBody st_check_rows, defScope st_check_rows, [], []⟩
def d_check_turns : He5.DefA := ⟨fun K => (He.ga K "check_turns"), "check_turns", "check_turns", defArgs st_check_turns, defBody st_check_turns, defScope st_check_turns, [], []⟩
def d_check_yes : He5.DefA := ⟨fun K => (He.ga K "check_yes"), "check_yes", "check_yes", defArgs st_check_yes, defBody st_check_yes, defScope st_check_yes, [], []⟩
def d_Loop_init : He5.DefA := ⟨fun K => (He.ma K (He.ga K "Loop") "__init__"), "__init__", "Loop.__init__", defArgs st_Loop_init, defBody st_Loop_init, defScope st_Loop_init, [.adr (He.dflAt ("Loop", some "__init__") 0)], []⟩
def d_Loop_signs : He5.DefA := ⟨fun K => (He5.wf K (He.ga K "Loop") "property" "signs"), "signs", "Loop.signs", defArgs st_Loop_signs, defBody st_Loop_signs, defScope st_Loop_signs, [], []⟩
def d_Loop_rows : He5.DefA := ⟨fun K => (He5.wf K (He.ga K "Loop") "property" "rows"), "rows", "Loop.rows", defArgs st_Loop_rows, defBody st_Loop_rows, defScope st_Loop_rows, [], []⟩
def d_Loop_turns : He5.DefA := ⟨fun K => (He5.wf K (He.ga K "Loop") "property" "turns"), "turns", "Loop.turns", defArgs st_Loop_turns, defBody st_Loop_turns, defScope st_Loop_turns, [], []⟩
def d_Loop_row : He5.DefA := ⟨fun K => (He5.wf K (He.ga K "Loop") "property" "row"), "row", "Loop.row", defArgs st_Loop_row, defBody st_Loop_row, defScope st_Loop_row, [], []⟩
def d_Loop_made : He5.DefA := ⟨fun K => (He5.wf K (He.ga K "Loop") "classmethod" "made"), "made", "Loop.made", defArgs st_Loop_made, defBody st_Loop_made, defScope st_Loop_made, [], []⟩
def d_Loop_round_from : He5.DefA := ⟨fun K => (He.ma K (He.ga K "Loop") "round_from"), "round_from", "Loop.round_from", defArgs st_Loop_round_from, defBody st_Loop_round_from, defScope st_Loop_round_from, [], []⟩
def d_Loop_history : He5.DefA := ⟨fun K => (He.ma K (He.ga K "Loop") "history"), "history", "Loop.history", defArgs st_Loop_history, defBody st_Loop_history, defScope st_Loop_history, [], []⟩
def d_Loop_answer : He5.DefA := ⟨fun K => (He.ma K (He.ga K "Loop") "answer"), "answer", "Loop.answer", defArgs st_Loop_answer, defBody st_Loop_answer, defScope st_Loop_answer, [], []⟩
def d_is_lap : He5.DefA := ⟨fun K => (He.ga K "is_lap"), "is_lap", "is_lap", defArgs st_is_lap, defBody st_is_lap, defScope st_is_lap, [], []⟩
def d_shows_differ : He5.DefA := ⟨fun K => (He.ga K "shows_differ"), "shows_differ", "shows_differ", defArgs st_shows_differ, defBody st_shows_differ, defScope st_shows_differ, [], []⟩
def d_loop_of : He5.DefA := ⟨fun K => (He.ga K "loop_of"), "loop_of", "loop_of", defArgs st_loop_of, defBody st_loop_of, defScope st_loop_of, [], []⟩
def d_kind_of : He5.DefA := ⟨fun K => (He.ga K "kind_of"), "kind_of", "kind_of", defArgs st_kind_of, defBody st_kind_of, defScope st_kind_of, [], []⟩
def d_accepts : He5.DefA := ⟨fun K => (He.ga K "accepts"), "accepts", "accepts", defArgs st_accepts, defBody st_accepts, defScope st_accepts, [], []⟩
def d_law7_cell : He5.DefA := ⟨fun K => (He.ga K "_law_cell"), "_law_cell", "_law_cell", defArgs st_law7_cell, defBody st_law7_cell, defScope st_law7_cell, [], []⟩
def d_law7_purse : He5.DefA := ⟨fun K => (He.ga K "_law_purse"), "_law_purse", "_law_purse", defArgs st_law7_purse, defBody st_law7_purse, defScope st_law7_purse, [], []⟩
def d_law7_pick : He5.DefA := ⟨fun K => (He.ga K "_law_pick"), "_law_pick", "_law_pick", defArgs st_law7_pick, defBody st_law7_pick, defScope st_law7_pick, [], []⟩
def d_law_wholeK : He5.DefA := ⟨fun K => (He.ga K "_law_whole"), "_law_whole", "_law_whole", defArgs st_law_wholeK, defBody st_law_wholeK, defScope st_law_wholeK, [], []⟩
def d_law7_amount : He5.DefA := ⟨fun K => (He.ga K "_law_amount"), "_law_amount", "_law_amount", defArgs st_law7_amount, defBody st_law7_amount, defScope st_law7_amount, [], []⟩
def d_law7_signs : He5.DefA := ⟨fun K => (He.ga K "_law_signs"), "_law_signs", "_law_signs", defArgs st_law7_signs, defBody st_law7_signs, defScope st_law7_signs, [], []⟩
def d_law7_wider : He5.DefA := ⟨fun K => (He.ga K "_law_wider"), "_law_wider", "_law_wider", defArgs st_law7_wider, defBody st_law7_wider, defScope st_law7_wider, [], []⟩
def d_law7_model : He5.DefA := ⟨fun K => (He.ga K "_law_model"), "_law_model", "_law_model", defArgs st_law7_model, defBody st_law7_model, defScope st_law7_model, [], []⟩
def d_law7_tags : He5.DefA := ⟨fun K => (He.ga K "_law_tags"), "_law_tags", "_law_tags", defArgs st_law7_tags, defBody st_law7_tags, defScope st_law7_tags, [], []⟩
def d_law7_row : He5.DefA := ⟨fun K => (He.ga K "_law_row"), "_law_row", "_law_row", defArgs st_law7_row, defBody st_law7_row, defScope st_law7_row, [], []⟩
def d_law7_pairs : He5.DefA := ⟨fun K => (He.ga K "_law_pairs"), "_law_pairs", "_law_pairs", defArgs st_law7_pairs, defBody st_law7_pairs, defScope st_law7_pairs, [], []⟩
def d_law7_words : He5.DefA := ⟨fun K => (He.ga K "_law_words"), "_law_words", "_law_words", defArgs st_law7_words, defBody st_law7_words, defScope st_law7_words, [], []⟩
def d_law7_answers : He5.DefA := ⟨fun K => (He.ga K "_law_answers"), "_law_answers", "_law_answers", defArgs st_law7_answers, defBody st_law7_answers, defScope st_law7_answers, [], []⟩
def d_law7_near : He5.DefA := ⟨fun K => (He.ga K "_law_near"), "_law_near", "_law_near", defArgs st_law7_near, defBody st_law7_near, defScope st_law7_near, [], []⟩
def d_law7_answer : He5.DefA := ⟨fun K => (He.ga K "_law_answer"), "_law_answer", "_law_answer", defArgs st_law7_answer, defBody st_law7_answer, defScope st_law7_answer, [], []⟩
def d_law7_odd : He5.DefA := ⟨fun K => (He.ga K "_law_odd"), "_law_odd", "_law_odd", defArgs st_law7_odd, defBody st_law7_odd, defScope st_law7_odd, [], []⟩
def d_law7_bent : He5.DefA := ⟨fun K => (He.ga K "_law_bent"), "_law_bent", "_law_bent", defArgs st_law7_bent, defBody st_law7_bent, defScope st_law7_bent, [], []⟩
def d_law7_is_ring : He5.DefA := ⟨fun K => (He.ga K "_law_is_ring"), "_law_is_ring", "_law_is_ring", defArgs st_law7_is_ring, defBody st_law7_is_ring, defScope st_law7_is_ring, [], []⟩
def d_law7_turns : He5.DefA := ⟨fun K => (He.ga K "_law_turns"), "_law_turns", "_law_turns", defArgs st_law7_turns, defBody st_law7_turns, defScope st_law7_turns, [], []⟩
def d_law7_is_word : He5.DefA := ⟨fun K => (He.ga K "_law_is_word"), "_law_is_word", "_law_is_word", defArgs st_law7_is_word, defBody st_law7_is_word, defScope st_law7_is_word, [], []⟩
def d_law7_is_lap : He5.DefA := ⟨fun K => (He.ga K "_law_is_lap"), "_law_is_lap", "_law_is_lap", defArgs st_law7_is_lap, defBody st_law7_is_lap, defScope st_law7_is_lap, [], []⟩
def d_law7_lap : He5.DefA := ⟨fun K => (He.ga K "_law_lap"), "_law_lap", "_law_lap", defArgs st_law7_lap, defBody st_law7_lap, defScope st_law7_lap, [], []⟩
def d_law7_accepted : He5.DefA := ⟨fun K => (He.ga K "_law_accepted"), "_law_accepted", "_law_accepted", defArgs st_law7_accepted, defBody st_law7_accepted, defScope st_law7_accepted, [], []⟩
def d_law7_due : He5.DefA := ⟨fun K => (He.ga K "_law_due"), "_law_due", "_law_due", defArgs st_law7_due, defBody st_law7_due, defScope st_law7_due, [], []⟩
def d_law7_right : He5.DefA := ⟨fun K => (He.ga K "_law_right"), "_law_right", "_law_right", defArgs st_law7_right, defBody st_law7_right, defScope st_law7_right, [], []⟩
def d_law : He5.DefA := ⟨fun K => (He.ga K "law"), "law", "law", defArgs st_law, defBody st_law, defScope st_law, [], []⟩
def fn : List He5.DefA := [d_is_integer, d_is_within, d_is_name, d_is_word, d_is_row, d_least_turning, d_Ring_init, d_Ring_text, d_Ring_eq, d_check_signs, d_check_pairs, d_Kind_init, d_Kind_signs, d_Kind_row, d_Kind_made, d_Kind_closes, d_Kind_contains, d_place_of, d_is_step, d_is_turn, d_check_states, d_check_rows, d_check_turns, d_check_yes, d_Loop_init, d_Loop_signs, d_Loop_rows, d_Loop_turns, d_Loop_row, d_Loop_made, d_Loop_round_from, d_Loop_history, d_Loop_answer, d_is_lap, d_shows_differ, d_loop_of, d_kind_of, d_accepts, d_law7_cell, d_law7_purse, d_law7_pick, d_law_wholeK, d_law7_amount, d_law7_signs, d_law7_wider, d_law7_model, d_law7_tags, d_law7_row, d_law7_pairs, d_law7_words, d_law7_answers, d_law7_near, d_law7_answer, d_law7_odd, d_law7_bent, d_law7_is_ring, d_law7_turns, d_law7_is_word, d_law7_is_lap, d_law7_lap, d_law7_accepted, d_law7_due, d_law7_right, d_law]
def fa : List He.Fa := [.glo "is_integer", .glo "is_within", .glo "is_name", .glo "is_word", .glo "is_row", .glo "least_turning", .glo "check_signs", .glo "check_pairs", .glo "place_of", .glo "is_step", .glo "is_turn", .glo "check_states", .glo "check_rows", .glo "check_turns", .glo "check_yes", .glo "is_lap", .glo "shows_differ", .glo "loop_of", .glo "kind_of", .glo "accepts", .glo "_law_cell", .glo "_law_purse", .glo "_law_pick", .glo "_law_whole", .glo "_law_amount", .glo "_law_signs", .glo "_law_wider", .glo "_law_model", .glo "_law_tags", .glo "_law_row", .glo "_law_pairs", .glo "_law_words", .glo "_law_answers", .glo "_law_near", .glo "_law_answer", .glo "_law_odd", .glo "_law_bent", .glo "_law_is_ring", .glo "_law_turns", .glo "_law_is_word", .glo "_law_is_lap", .glo "_law_lap", .glo "_law_accepted", .glo "_law_due", .glo "_law_right", .glo "law", .glo "Kind", .str "LETTERS" "abcdefghijklmnopqrstuvwxyz", .int "LONGEST_NAME" 8, .glo "Loop", .str "MARKS" "abcdefghijklmnopqrstuvwxyz0123456789", .int "MOST_ROUNDS" 99, .int "MOST_SIGNS" 4, .int "MOST_STATES" 6, .int "MOST_WORD" 600, .glo "Ring", .free "abs", .free "all", .free "bool", .free "divmod", .free "enumerate", .free "int", .free "isinstance", .free "len", .free "list", .free "max", .free "min", .free "range", .free "set", .free "sorted", .free "str", .free "tuple", .cls "Ring", .noat "Ring" "least", .mkr "Ring", .cls "Kind", .noat "Kind" "letters", .noat "Kind" "allowed", .mkr "Kind", .cls "Loop", .noat "Loop" "letters", .noat "Loop" "order", .noat "Loop" "table", .noat "Loop" "ending", .noat "Loop" "marked", .mkr "Loop", .meth "Kind" "closes", .meth "Loop" "round_from", .meth "Loop" "history", .meth "Loop" "answer", .glo "LENGTHS", .glo "JUDGES"]
def ex : List Fx := [insB "Ring", noB "Ring", neB "Ring", insB "Kind", noB "Kind", crB "Kind", insB "Loop", noB "Loop", crB "Loop", tup0B (He.dflAt ("Loop", some "__init__") 0), kitNB "Kind" "Ring", kitNB "Ring" "Kind", propB "Ring" "text", specB "Ring" "__eq__", propB "Kind" "signs", propB "Kind" "row", cmB "Kind" "made", specB "Kind" "__contains__", propB "Loop" "signs", propB "Loop" "rows", propB "Loop" "turns", propB "Loop" "row", cmB "Loop" "made", (fun K => He.valsB K (He.ga K "LENGTHS") [("differ", .int 6)]), (fun K => He.valsB K (He.ga K "JUDGES") [("differ", .glo "shows_differ")])]
def ts : List He.Tab := [((fun K => He.ga K "LENGTHS"), ["differ", "pumped", "spread", "settled", "within"]), ((fun K => He.ga K "JUDGES"), ["differ", "pumped", "spread", "settled", "within"])]
def looseN : List Str := (["_wall", "WrongValue", "InvalidWord", "InvalidSigns", "InvalidNumber", "InvalidRound", "InvalidPlace", "InvalidRow", "NotARing", "NotAKind", "NotALoop", "OtherSigns", "InvalidPairs", "InvalidStates", "InvalidRows"] : List Str) ++ (["InvalidTurns", "NoAnswer", "TooMany", "NoRing", "MOST_SIGNS", "MOST_STATES", "MOST_WORD", "MOST_STANDS", "MOST_ROUNDS", "MOST_LENGTH", "MOST_WARM", "MOST_TIMES", "LETTERS", "MARKS", "LONGEST_NAME"] : List Str) ++ (["is_integer", "is_within", "is_name", "is_word", "is_row", "common_multiple", "least_turning", "Ring", "check_signs", "check_pairs", "check_kind", "going_on", "Kind", "place_of", "is_step"] : List Str) ++ (["is_turn", "check_loop", "check_states", "check_rows", "check_turns", "check_yes", "moves", "pairs_along", "along", "Loop", "Walks", "Machine", "Stands", "loop_of", "kind_of"] : List Str) ++ (["stands_of", "map_of", "number_of", "table_of", "worth_of", "is_above", "highs_of", "lows_of", "is_state", "tables_of", "bound_in", "is_bounding", "ranges_of", "Race", "is_lap"] : List Str) ++ (["laps_to_show", "shows_differ", "shows_pumped", "shows_spread", "shows_settled", "shows_within", "JUDGES", "LENGTHS", "accepts", "_law_cell", "_law_purse", "_law_pick", "_law_whole", "_law_amount", "_law_signs"] : List Str) ++ (["_law_wider", "_law_model", "_law_tags", "_law_row", "_law_pairs", "_law_words", "_law_answers", "_law_near", "_law_answer", "_law_odd", "_law_bent", "_law_is_ring", "_law_turns", "_law_is_word", "_law_is_lap"] : List Str) ++ (["_law_lap", "_law_accepted", "_law_due", "_law_right"] : List Str)
abbrev RR : PySem.W.OpenRow := PySem.W.OpenLaw.row PySem.Challenge.rw_wherebegun_k70_differences_judged
abbrev hk : PySem.W.Hook := hookD 6 fa fn ex ts
def ob (s : PySem.W.SharedT) : AlT' := obsDG 6 fa fn ex ts (HandSHeadRun.getT s)
theorem ob_eq (s : PySem.W.SharedT) : ob s = hk.obs s.abs := obsDG_eq (HandSHeadRun.getT_eq s)
theorem runA1 (w : World) : PartA RR (PySem.W.view RR.prog [120]) 20000 looseN (wB true w) := by
  intro os
  kernel_rfl
theorem runX1 (w : World) : PartB RR 6 20000 (wB true w) fa [] ex := by
  intro os
  kernel_rfl
theorem runT1 (w : World) : PartT RR 6 20000 (wB true w) ts := by
  intro os
  kernel_rfl
theorem fn_cut : ((fn.drop 0).take 32) ++ ((fn.drop 32)) = fn := rfl
theorem runF1_0 (w : World) : PartB RR 6 20000 (wB true w) [] ((fn.drop 0).take 32) [] := by
  intro os
  kernel_rfl
theorem runF1_1 (w : World) : PartB RR 6 20000 (wB true w) [] (fn.drop 32) [] := by
  intro os
  kernel_rfl
theorem runB1 (w : World) : HandSHeadRun.RunEq RR (PySem.W.view RR.prog [120]) hk ob 20000 looseN (wB true w) := run_ofD (runA1 w) (PartB.two (runX1 w) (fn_cut ▸ (PartB.fns (runF1_0 w) (runF1_1 w)))) (runT1 w)
theorem runA0 (w : World) : PartA RR (PySem.W.view RR.prog [120]) 20000 looseN (wB false w) := by
  intro os
  kernel_rfl
theorem runX0 (w : World) : PartB RR 6 20000 (wB false w) fa [] ex := by
  intro os
  kernel_rfl
theorem runT0 (w : World) : PartT RR 6 20000 (wB false w) ts := by
  intro os
  kernel_rfl
theorem runF0_0 (w : World) : PartB RR 6 20000 (wB false w) [] ((fn.drop 0).take 32) [] := by
  intro os
  kernel_rfl
theorem runF0_1 (w : World) : PartB RR 6 20000 (wB false w) [] (fn.drop 32) [] := by
  intro os
  kernel_rfl
theorem runB0 (w : World) : HandSHeadRun.RunEq RR (PySem.W.view RR.prog [120]) hk ob 20000 looseN (wB false w) := run_ofD (runA0 w) (PartB.two (runX0 w) (fn_cut ▸ (PartB.fns (runF0_0 w) (runF0_1 w)))) (runT0 w)
theorem runH (w : World) : HandSHeadRun.RunEq RR (PySem.W.view RR.prog [120]) hk ob 20000 looseN w := by
  have h : HandSHeadRun.RunEq RR (PySem.W.view RR.prog [120]) hk ob 20000 looseN (wB (w.params.followText "special-get-raises") w) := by
    cases w.params.followText "special-get-raises" with
    | true => exact runB1 w
    | false => exact runB0 w
  rw [wB_eq] at h
  exact h
def Walked : Prop := ∀ {P : Program} {w : World} {K : Fr'} {h : Heap} {mg : Str → Option Value} {f : Addr} (X : K.In h) (G : h.Ns mainGlobals mg) (hfa : mg ("law" : Str) = some (.ref f)) (c : SaysW fa fn ex K) (kd : TabsOk ts w K),
    ∃ fd : FuncData, (∀ (s : Shared) (v : Value), BindsTo s fd ⟨[v], []⟩ [("_law_cells", v)]) ∧ ∀ base : Heap, K.In base → base.Ns mainGlobals mg → FnOk P w K mg base CX0 11 f fd ["_law_cells"] (sp_law K)
end WB
open PySem PySem.W PySem.Calls PyProof.Rows in
set_option maxRecDepth 100000 in
set_option maxHeartbeats 0 in
theorem WB.headF (F : WB.Walked) : PySem.Challenge.rw_wherebegun_k70_differences_judged.Holds := by
  w_on; o_law
  refine HandSHeadRun.head_any (r := OpenLaw.row PySem.Challenge.rw_wherebegun_k70_differences_judged) (q := view (OpenLaw.row PySem.Challenge.rw_wherebegun_k70_differences_judged).prog [120]) (H := WB.hk) (ob := WB.ob) (M := 20000) (loose := WB.looseN) (d := HandSHeadRun.topDef (OpenLaw.row PySem.Challenge.rw_wherebegun_k70_differences_judged).prog 120) (kwd := []) WB.ob_eq
    (by kernel_rfl) (fun s => by kernel_rfl) WB.runH (by kernel_rfl) (by kernel_rfl) (by kernel_rfl) (by rfl) (by first | assumption | decide +kernel) (by decide +kernel) ⟨rfl, rfl, rfl, rfl, rfl, by decide +kernel⟩ ?hw ?hc
  case hw => w_witness2
  case hc =>
    refine L2.walk_ofE (l := PySem.Challenge.rw_wherebegun_k70_differences_judged) (n := 63) (k := 11) (x := "_law_cells") (CX := L2.CX0) rfl (by decide) (by kernel_rfl) ⟨rfl, by decide, by decide⟩ ?F (fun _ _ _ _ z => z)
    intro w mg fa h Y G hmg0
    obtain ⟨K, KX, c, kd⟩ := Y
    have hmg : mg ("law" : PySem.Str) = some (.ref fa) := by
      have e : (HandSHeadRun.topDef (OpenLaw.row PySem.Challenge.rw_wherebegun_k70_differences_judged).prog 120).name = ("law" : PySem.Str) := by kernel_rfl
      rw [← e]
      exact hmg0
    obtain ⟨fd, hb, hF⟩ := F (P := (PySem.Challenge.rw_wherebegun_k70_differences_judged).prog) (w := w) KX G hmg c kd
    exact ⟨K, fd, WB.sp_law K, KX, hb, fun H a ns hl _ hS => ⟨a, ns, rfl, hS, hl, fun _ => rfl⟩, hF⟩
namespace WB
open PySem PySem.Spec PyProof.Rows L2
local macro_rules | `(tactic| walk_at "lit") => `(tactic| first | exact lit_abc | exact lit_empty)
local macro_rules | `(tactic| walk_at "nm") => `(tactic| focus first | exact List.not_mem_nil | (simp only [List.mem_singleton]; first | assumption | (exact Ne.symm (by assumption)) | (intro hz; subst hz; simp_all; done)))
local macro_rules | `(tactic| walk_at "hp") => `(tactic| first | assumption | (apply Ex.get0 (by assumption); walk_at "hp") | (apply Ex.get (by assumption); (walk_at "nm"); (walk_at "hp")))
local macro_rules | `(tactic| walk_at "sq") => `(tactic| first | assumption | (apply SqL.of; walk_at "hp") | (apply Ex.sqL (by assumption); (walk_at "nm"); (walk_at "sq")))
local macro_rules | `(tactic| walk_at "sqt") => `(tactic| first | assumption | (apply SqT.of; walk_at "hp") | (apply Ex.sqT (by assumption); (walk_at "nm"); (walk_at "sqt")))
local macro_rules | `(tactic| walk_at "sz") => `(tactic| focus ((with_reducible refine Nat.le_trans (m := 100000) ?_ (by decide)); first | omega | (simp; done) | (simp; omega)))
local macro_rules | `(tactic| walk_at "mul") => `(tactic| first | exact Or.inr ⟨by omega, by omega⟩ | exact Or.inl ⟨by omega, by omega⟩)
local macro_rules | `(tactic| walk_at "pool") => `(tactic| first | assumption | (apply PoolAt.ex (by assumption); (walk_at "nm"); (walk_at "pool")))
local macro_rules | `(tactic| walk_at "ring") => `(tactic| first | assumption | (apply RingAt.ex (by assumption); (walk_at "nm"); (walk_at "ring")))
local macro_rules | `(tactic| walk_at "st") => `(tactic| first
  | with_reducible refine s_seq ?_
  | with_reducible refine s_asg ?_
  | with_reducible refine s_gName ?_
  | with_reducible refine s_ret ?_
  | with_reducible refine s_ifS ?_
  | with_reducible refine s_next ?_
  | with_reducible refine s_op ?_
  | ((with_reducible apply s_var); exact rfl)
  | ((with_reducible apply s_cS); (walk_at "lit"))
  | with_reducible refine s_c ?_
  | with_reducible refine s_cb ?_
  | with_reducible refine s_cons ?_
  | with_reducible refine s_nil ?_
  | with_reducible refine s_un ?_
  | with_reducible refine s_call ?_
  | with_reducible refine s_test ?_
  | with_reducible refine s_tB ?_
  | with_reducible refine s_blQ ?_
  | with_reducible refine s_not ?_
  | with_reducible refine s_and ?_
  | with_reducible refine s_or ?_
  | with_reducible refine s_andV ?_
  | with_reducible refine s_orV ?_
  | with_reducible refine s_notV ?_
  | with_reducible refine s_ifE ?_
  | with_reducible refine s_chain ?_
  | ((with_reducible refine s_T ?_ ?_); (with_reducible exact rfl))
  | with_reducible refine s_nT ?_
  | with_reducible refine s_nF ?_
  | ((with_reducible refine s_F ?_ ?_); (with_reducible exact rfl))
  | ((with_reducible refine s_T ?_ ?_); assumption)
  | ((with_reducible refine s_F ?_ ?_); assumption)
  | ((with_reducible refine s_nB ?_ ?_); assumption)
  | ((with_reducible refine s_nA ?_ ?_); assumption)
  | ((with_reducible refine s_Td ?_ ?_); omega)
  | ((with_reducible refine s_Fd ?_ ?_); omega)
  | ((with_reducible refine s_nTd ?_ ?_); omega)
  | ((with_reducible refine s_nFd ?_ ?_); omega)
  | with_reducible refine s_sfld ?_
  | with_reducible refine s_addI ?_
  | with_reducible refine s_subI ?_
  | ((with_reducible refine s_mulI ?_ ?_); (walk_at "mul"))
  | ((with_reducible refine s_divI ?_ ?_); exact ⟨by omega, by omega⟩)
  | ((with_reducible refine s_modI ?_ ?_); omega)
  | ((with_reducible refine s_powI ?_ ?_); exact ⟨by decide, by decide, by decide⟩)
  | with_reducible refine s_ltI ?_
  | with_reducible refine s_leI ?_
  | with_reducible refine s_gtI ?_
  | with_reducible refine s_geI ?_
  | with_reducible refine s_negI ?_
  | with_reducible refine s_absI ?_
  | with_reducible refine s_intI ?_
  | with_reducible refine s_min2 ?_
  | with_reducible refine s_max2 ?_
  | with_reducible refine s_eqI ?_
  | with_reducible refine s_neI ?_
  | with_reducible refine s_eqS ?_
  | with_reducible refine s_neS ?_
  | with_reducible refine s_inSg ?_
  | with_reducible refine s_notInSg ?_
  | ((with_reducible refine s_addS ?_ ?_); (walk_at "sz"))
  | ((with_reducible refine s_lenS ?_ ?_); (walk_at "sz"))
  | ((with_reducible apply s_lenL); (walk_at "sq"))
  | ((with_reducible apply s_lenT); (walk_at "sqt"))
  | ((with_reducible apply s_ixL); (walk_at "sq"); exact rfl)
  | ((with_reducible apply s_ixT); (walk_at "sqt"); exact rfl)
  | with_reducible refine s_gSub ?_
  | ((with_reducible apply s_setL); (walk_at "hp"); (exact rfl); (intro _ _ _))
  | ((with_reducible refine s_alloc ?_ ?_); (walk_at "sz"); (intro _ _ _ _ _))
  | ((with_reducible refine s_divmod ?_ ?_); (exact ⟨by omega, PyProof.noPylong_small (by omega)⟩); (intro _ _ _ _ _))
  | ((with_reducible apply s_gTup); (walk_at "sqt"); (exact rfl))
  | ((with_reducible apply s_gLst); (walk_at "sq"); (exact rfl))
  | with_reducible refine s_gCons ?_
  | with_reducible refine s_gNil ?_
  | with_reducible refine s_lc ?_
  | ((with_reducible apply s_cat); (walk_at "hp"); (walk_at "hp"); (walk_at "sz"); (intro _ _ _ _ _))
  | ((with_reducible apply s_slL); (walk_at "sq"); (intro _ _ _ _ _))
  | with_reducible refine s_for ?_
  | with_reducible refine s_rng1 ?_
  | ((with_reducible refine s_rng1i ?_ ?_); (constructor <;> omega))
  | with_reducible refine s_rng2 ?_
  | ((with_reducible refine s_rng2i ?_ ?_); (refine ⟨?_, ?_, ?_, ?_⟩ <;> omega))
  | with_reducible refine s_iStr ?_
  | with_reducible refine s_iStrS ?_
  | with_reducible refine s_iList ?_
  | ((with_reducible apply s_iListA); (walk_at "sq"))
  | with_reducible refine s_iTup ?_
  | ((with_reducible apply s_iTupA); (walk_at "sqt"))
  | with_reducible refine s_sl ?_
  | with_reducible refine s_noPart ?_
  | with_reducible refine s_part ?_
  | with_reducible refine s_int1 ?_
  | ((with_reducible refine s_slS ?_ ?_); (walk_at "sz"))
  | with_reducible refine s_tup ?_
  | with_reducible refine s_lst ?_
  | with_reducible refine s_par ?_
  | with_reducible refine s_pair ?_
  | with_reducible refine s_M1 ?_
  | with_reducible refine s_isStr ?_
  | with_reducible refine s_revS ?_
  | ((with_reducible refine s_revS1 ?_ ?_); (walk_at "sz"))
  | with_reducible refine s_fldE ?_
  | with_reducible refine s_propE ?_
  | ((with_reducible refine u_draw ?_ ?_ ?_ ?_); omega; omega; (walk_at "pool"); (intro _ _ _ _ _ _))
  | ((with_reducible refine u_pool ?_); (intro _ _ _ _ _))
  | with_reducible refine u_is_integer ?_
  | with_reducible refine s_isiII ?_
  | with_reducible refine s_isiIB ?_
  | with_reducible refine s_isiSS ?_
  | ((with_reducible apply u_fldRing); assumption; (walk_at "ring"))
  | ((with_reducible apply u_textP); (walk_at "ring"))
  | ((with_reducible apply u_strRing); (walk_at "ring"))
  | ((with_reducible apply u_eqRing); (walk_at "ring"); (walk_at "ring"))
  | ((with_reducible apply u_isiRing); assumption; (walk_at "ring"))
  | ((with_reducible refine u_is_word ?_ ?_); omega; (intro _ _))
  | ((with_reducible refine u_turnings ?_ ?_); omega; (intro _ _ _ _ _))
  | with_reducible refine s_makeE ?_
  | with_reducible refine s_methE ?_)
local macro_rules | `(tactic| walk_at "go") => `(tactic| repeat (walk_at "st"))
local macro_rules | `(tactic| walk_at "exs") => `(tactic| first | exact Ex.rfl | assumption | (apply Ex.snoc (by assumption); walk_at "exs") | (apply Ex.snocW (by assumption); walk_at "exs"))
def t_is_integer (K : PySem.W.Frag) : TS :=
  (tRet (tAndV (tCB (rIsi K) (tCons (tVar 0) (tCons (tC (.ty "int")) tNil))) (tNotV (tCB (rIsi K) (tCons (tVar 0) (tCons (tC (.ty "bool")) tNil))))))
def t_is_word (K : PySem.W.Frag) : TS :=
  (tSeq (tIfS (tOr (tNot (tB (tCB (rIsi K) (tCons (tVar 0) (tCons (tC (.ty "str")) tNil))))) (tNot (tTest (tChain rLeI rLeI (tC (.int 1)) (tCB (rLenV K) (tCons (tVar 0) tNil)) (tC (.int 600)))))) (tRet (tC (.bl false))) tNext)
  (tRet (tCB (rAll K) (tCons (tLc (iStr (tVar 0)) (gName 2) tYes (tOp rInSg (tVar 2) (tVar 1)) [2]) tNil))))
def t_least_turning (K : PySem.W.Frag) : TS :=
  (tRet (tCB (rMinS K) (tCons (tLc (iRng1 (tCons (tCB (rLenV K) (tCons (tVar 0) tNil)) tNil)) (gName 1) tYes (tOp rAddS (tSl rSlS (tVar 0) (tPart (tVar 1)) tNoPart) (tSl rSlS (tVar 0) tNoPart (tPart (tVar 1)))) [1]) tNil)))
def t_Ring_init (K : PySem.W.Frag) : TS :=
  (tSeq (tIfS (tNot (tB (tCall (sp_is_word K) [(vS LET)] E0 (tCons (tVar 1) tNil)))) tNever tNext)
  (sFld K (tVar 0) (tCall (sp_least_turning K) [] E0 (tCons (tVar 1) tNil)) "least"))
def t_Ring_text (K : PySem.W.Frag) : TS :=
  (tRet (tFld K (tVar 0) "least"))
def t_Ring_eq (K : PySem.W.Frag) : TS :=
  (tRet (tAndV (tCB (rIsi K) (tCons (tVar 1) (tCons (tC (.ref (He.ga K "Ring"))) tNil))) (tOp rEq (tFld K (tVar 0) "least") (tFld K (tVar 1) "least"))))
abbrev E1 (Q : VK) : Ends := ⟨fun _ H' => Q .non H', Q, fun _ _ => False, fun _ _ => False⟩
section
variable {K : PySem.W.Frag} {vs : List V} {H : Hp} {Q : VK} {E : XK}
theorem pure_is_integer (h : sp_is_integer K vs H Q E) : t_is_integer K (E1 Q) (start ["value"] vs) H := by
  obtain ⟨v, n, rfl, hk, k⟩ := h
  show t_is_integer K (E1 Q) [some v] H
  unfold t_is_integer
  walk_at "go"
  have hn := hk.2
  simp only [KD, List.mem_cons, List.not_mem_nil, or_false] at hn
  rcases hn with rfl | rfl | rfl | rfl | rfl | rfl | rfl
  · refine s_isiK hk (b := true) (by decide +kernel) ?_
    walk_at "go"
    refine s_isiK hk (b := false) (by decide +kernel) ?_
    walk_at "go"
    exact k
  · refine s_isiK hk (b := true) (by decide +kernel) ?_
    walk_at "go"
    refine s_isiK hk (b := true) (by decide +kernel) ?_
    walk_at "go"
    exact k
  all_goals
    refine s_isiK hk (b := false) (by decide +kernel) ?_
    walk_at "go"
    exact k
theorem pure_is_word (h : sp_is_word K vs H Q E) : t_is_word K (E1 Q) (start ["value", "signs", "sign"] vs) H := by
  obtain ⟨v, s, rfl, h⟩ := h
  show t_is_word K (E1 Q) [some v, some (vS s), none] H
  unfold t_is_word
  rcases h with ⟨l, rfl, hl, k⟩ | ⟨n, hk, hn, k⟩
  rotate_left
  · walk_at "go"
    have hb := kitB_str hk.2 hn
    refine s_isiK hk (b := false) hb ?_
    walk_at "go"
    exact k
  walk_at "go"
  refine s_2 (fun hb => ?_) (fun hb => ?_)
  · have hb := of_decide_eq_true hb
    walk_at "go"
    refine s_2 (fun hb2 => ?_) (fun hb2 => ?_)
    · have hb2 : ¬ (l.length : Int) ≤ 600 := by simpa using hb2
      walk_at "go"
      have e : isWord l s = false := by
        unfold isWord
        rw [decide_eq_false (by omega)]
        rfl
      rw [← e]
      exact k _ Ex.rfl
    · have hb2 : (l.length : Int) ≤ 600 := by simpa using hb2
      walk_at "go"
      refine lc_mapS (by omega) (fun _ => true) (fun c => .bl (decide (c ∈ s))) (fun c H4 C1 C0 hc e4 k1 k0 => ?_) (fun D H4 hD e4 hd4 => ?_)
      · refine s_yes ?_
        walk_at "go"
        exact k1 _ Ex.rfl rfl
      · walk_at "go"
        have e : isWord l s = ((l.filter fun _ => true).map fun c => decide (c ∈ s)).all id := by
          unfold isWord
          rw [decide_eq_true (by omega), Bool.true_and, List.all_map, List.filter_eq_self.mpr (by simp)]
          rfl
        refine s_all (bs := (l.filter fun _ => true).map fun c => decide (c ∈ s)) ?_ ?_
        · rw [List.map_map]
          exact SqL.of hd4
        · rw [← e]
          exact k _ e4
  · have hb : ¬ 1 ≤ (l.length : Int) := of_decide_eq_false hb
    refine s_blQ ?_
    walk_at "go"
    have e : isWord l s = false := by
      unfold isWord
      rw [decide_eq_false (by omega)]
      rfl
    rw [← e]
    exact k _ Ex.rfl
theorem pure_least_turning (h : sp_least_turning K vs H Q E) : t_least_turning K (E1 Q) (start ["text", "place"] vs) H := by
  obtain ⟨l, rfl, h0, hl, k⟩ := h
  show t_least_turning K (E1 Q) [some (vS l), none] H
  unfold t_least_turning
  walk_at "go"
  refine lc_mapR (by omega) (fun i => vS (rot l i)) (fun i H1 C hi e kk => ?_) (fun D H' hD e hd => ?_)
  · walk_at "go"
    rw [cut_from (by omega), cut_to (by omega), show ((0 : Int) + (i : Int)).toNat = i by omega]
    refine s_addS ?_ (kk _ Ex.rfl)
    rw [List.length_drop, List.length_take]
    walk_at "sz"
  · have e0 : (rots l).map vS = List.map (fun i => vS (rot l i)) (List.range (↑l.length : Int).toNat) := by
      unfold rots
      rw [List.map_map, Int.toNat_natCast]
      rfl
    rw [← e0] at hd
    have kk := k H' e
    unfold leastT at kk
    cases hr : rots l with
    | nil =>
      exfalso
      apply h0
      have := congrArg List.length hr
      unfold rots at this
      simpa using this
    | cons x xs =>
      rw [hr] at kk hd
      exact s_minS (SqL.of hd) kk
variable (F : RingK K)
include F
theorem pure_Ring_text (h : sp_Ring_text K vs H Q E) : t_Ring_text K (E1 Q) (start ["self"] vs) H := by
  obtain ⟨a, l, rfl, h, k⟩ := h
  show t_Ring_text K (E1 Q) [some (.ref a)] H
  unfold t_Ring_text
  walk_at "go"
  exact k
theorem pure_Ring_eq (h : sp_Ring_eq K vs H Q E) : t_Ring_eq K (E1 Q) (start ["self", "other"] vs) H := by
  obtain ⟨a, v, rfl, l, h1, h⟩ := h
  show t_Ring_eq K (E1 Q) [some (.ref a), some v] H
  unfold t_Ring_eq
  walk_at "go"
  rcases h with ⟨b, m, rfl, h2, k⟩ | ⟨n, hk, k⟩
  · walk_at "go"
    exact k
  · refine ⟨_, _, _, _, _, rfl, .own _, hk.1, F.no n hk.2, ?_⟩
    walk_at "go"
    exact k
theorem pure_Ring_init (h : sp_Ring_init K vs H Q E) : t_Ring_init K (E1 Q) (start ["self", "text"] vs) H := by
  obtain ⟨x, dx, l, rfl, hw, hx, k⟩ := h
  show t_Ring_init K (E1 Q) [some (.ref x), some (vS l)] H
  have hl := isWord_len hw
  unfold t_Ring_init
  walk_at "go"
  refine u_least_turning (fun e => by rw [e] at hl; simp at hl) (by omega) fun H2 e2 => ?_
  walk_at "go"
  refine u_setRing F (by walk_at "hp") fun H3 e3 h3 => ?_
  exact k _ (by walk_at "exs") h3
end
end WB
namespace WB
theorem minL_spec : ∀ (xs : List (List Nat)) (x : List Nat), minL x xs ∈ x :: xs ∧ ∀ y ∈ x :: xs, minL x xs ≤ y
  | [], x => ⟨by simp [minL], fun y hy => by rw [List.mem_singleton.mp hy]; exact List.le_refl x⟩
  | z :: zs, x => by
    have e : minL x (z :: zs) = minL (if decide (z < x) = true then z else x) zs := rfl
    rw [e]
    by_cases h : z < x
    · rw [if_pos (decide_eq_true h)]
      obtain ⟨h1, h2⟩ := minL_spec zs z
      refine ⟨List.mem_cons_of_mem _ h1, fun y hy => ?_⟩
      rcases List.mem_cons.mp hy with rfl | hy
      · exact List.le_trans (h2 z List.mem_cons_self) (List.not_lt.mp fun h3 => List.lt_irrefl _ (List.lt_trans h h3))
      · exact h2 y hy
    · rw [if_neg (by simpa using h)]
      obtain ⟨h1, h2⟩ := minL_spec zs x
      refine ⟨?_, fun y hy => ?_⟩
      · rcases List.mem_cons.mp h1 with e | h1
        · rw [e]; exact List.mem_cons_self
        · exact List.mem_cons_of_mem _ (List.mem_cons_of_mem _ h1)
      · rcases List.mem_cons.mp hy with rfl | hy
        · exact h2 y List.mem_cons_self
        · rcases List.mem_cons.mp hy with rfl | hy
          · exact List.le_trans (h2 x List.mem_cons_self) (List.not_lt.mp h)
          · exact h2 y (List.mem_cons_of_mem _ hy)
theorem rot_len (l : List Nat) (i : Nat) : (rot l i).length = l.length := by
  unfold rot
  rw [List.length_append, List.length_drop, List.length_take]
  omega
theorem rot_zero (l : List Nat) : rot l 0 = l := by simp [rot]
theorem rot_full (l : List Nat) : rot l l.length = l := by simp [rot]
theorem mem_rots {l y : List Nat} : y ∈ rots l ↔ ∃ i, i < l.length ∧ y = rot l i := by
  unfold rots
  rw [List.mem_map]
  constructor
  · rintro ⟨i, hi, rfl⟩; exact ⟨i, List.mem_range.mp hi, rfl⟩
  · rintro ⟨i, hi, rfl⟩; exact ⟨i, List.mem_range.mpr hi, rfl⟩
theorem rots_ne {l : List Nat} (h : l ≠ []) : rots l ≠ [] := by
  intro e
  have := congrArg List.length e
  unfold rots at this
  rw [List.length_map, List.length_range] at this
  exact h (List.length_eq_zero_iff.mp this)
theorem leastT_spec {l : List Nat} (h : l ≠ []) : leastT l ∈ rots l ∧ ∀ y ∈ rots l, leastT l ≤ y := by
  unfold leastT
  cases e : rots l with
  | nil => exact absurd e (rots_ne h)
  | cons x xs => exact minL_spec xs x
theorem leastT_rot {l : List Nat} (h : l ≠ []) : ∃ i, i < l.length ∧ leastT l = rot l i := mem_rots.mp (leastT_spec h).1
theorem leastT_len {l : List Nat} (h : l ≠ []) : (leastT l).length = l.length := by
  obtain ⟨i, _, e⟩ := leastT_rot h
  rw [e, rot_len]
theorem mem_rot {l : List Nat} {i c : Nat} : c ∈ rot l i ↔ c ∈ l := by
  unfold rot
  rw [List.mem_append, or_comm, ← List.mem_append, List.take_append_drop]
theorem leastT_mem {l : List Nat} (h : l ≠ []) {c : Nat} : c ∈ leastT l ↔ c ∈ l := by
  obtain ⟨i, _, e⟩ := leastT_rot h
  rw [e, mem_rot]
theorem rot_rot {l : List Nat} {i j : Nat} (hi : i ≤ l.length) (hj : j ≤ l.length) : rot (rot l i) j = rot l (if i + j < l.length then i + j else i + j - l.length) := by
  unfold rot
  split
  · rename_i h
    rw [List.drop_append_of_le_length (by rw [List.length_drop]; omega), List.take_append_of_le_length (by rw [List.length_drop]; omega), List.drop_drop, List.append_assoc]
    congr 1
    rw [List.take_add]
  · rename_i h
    rw [List.drop_append, List.take_append]
    rw [List.length_drop]
    have e1 : (l.drop i).drop j = [] := List.drop_of_length_le (by rw [List.length_drop]; omega)
    have e2 : (l.drop i).take j = l.drop i := List.take_of_length_le (by rw [List.length_drop]; omega)
    rw [e1, e2, List.nil_append]
    have e3 : j - (l.length - i) = i + j - l.length := by omega
    rw [e3]
    have hk : i + j - l.length ≤ i := by omega
    generalize i + j - l.length = k at hk
    rw [← List.append_assoc, List.take_take, Nat.min_eq_left hk]
    congr 1
    rw [List.drop_take]
    conv => rhs; rw [← List.take_append_drop (i - k) (l.drop k)]
    rw [List.drop_drop]
    congr 2
    omega
theorem rots_rot {l : List Nat} {i : Nat} (hi : i < l.length) {y : List Nat} : y ∈ rots (rot l i) ↔ y ∈ rots l := by
  rw [mem_rots, mem_rots, rot_len]
  constructor
  · rintro ⟨j, hj, rfl⟩
    rw [rot_rot (by omega) (by omega)]
    split
    · exact ⟨_, by assumption, rfl⟩
    · exact ⟨_, by omega, rfl⟩
  · rintro ⟨j, hj, rfl⟩
    by_cases h : i ≤ j
    · refine ⟨j - i, by omega, ?_⟩
      rw [rot_rot (by omega) (by omega), if_pos (by omega)]
      congr 1
      omega
    · refine ⟨l.length - i + j, by omega, ?_⟩
      rw [rot_rot (by omega) (by omega), if_neg (by omega)]
      congr 1
      omega
theorem least_unique {a b : List Nat} (ha : a ≠ []) (hb : b ≠ []) (h : ∀ y, y ∈ rots a ↔ y ∈ rots b) : leastT a = leastT b := by
  obtain ⟨a1, a2⟩ := leastT_spec ha
  obtain ⟨b1, b2⟩ := leastT_spec hb
  exact List.le_antisymm (a2 _ ((h _).mpr b1)) (b2 _ ((h _).mp a1))
theorem leastT_of_rot {l : List Nat} {i : Nat} (hi : i < l.length) : leastT (rot l i) = leastT l := by
  have h : l ≠ [] := fun e => by rw [e] at hi; simp at hi
  have h2 : rot l i ≠ [] := fun e => by
    have := rot_len l i
    rw [e] at this
    simp at this
    omega
  exact least_unique h2 h fun y => rots_rot hi
theorem rep_zero (l : List Nat) : rep 0 l = [] := rfl
theorem rep_succ (k : Nat) (l : List Nat) : rep (k + 1) l = l ++ rep k l := by
  unfold rep
  rw [List.replicate_succ, List.flatten_cons]
theorem rep_one (l : List Nat) : rep 1 l = l := by rw [rep_succ, rep_zero, List.append_nil]
theorem rep_length (k : Nat) (l : List Nat) : (rep k l).length = k * l.length := by simp [rep]
section
open PySem PySem.Spec PyProof.Rows L2
theorem Ex.drop {H H1 H2 : Hp} {p : Addr} (hp : H p = none) (a : Ex [] H H1) (b : Ex [p] H1 H2) : Ex [] H H2 := fun x o _ h => b x o (by simpa using ne_of_none h hp) (a x o (by simp) h)
end
theorem isWord_ne {l s : List Nat} (h : isWord l s = true) : l ≠ [] := fun e => by
  have hl := isWord_len h
  rw [e] at hl
  simp at hl
theorem plain_word {l : List Nat} (h : isWord l LET = true) : plain l := fun c hc => by
  have := isWord_in h c hc
  have h2 : ∀ c ∈ LET, c < 55296 := by decide
  exact h2 c this
theorem isWord_app {l m : List Nat} (h : isWord l LET = true) (h2 : isWord m LET = true) (h3 : l.length + m.length ≤ 600) : isWord (l ++ m) LET = true := by
  have hl := isWord_len h
  refine isWord_mk (by rw [List.length_append]; omega) (by rw [List.length_append]; omega) fun c hc => ?_
  rcases List.mem_append.mp hc with hc | hc
  · exact isWord_in h c hc
  · exact isWord_in h2 c hc
end WB
namespace WB
open PySem PySem.Spec PyProof.Rows L2
def sp_is_within (K : PySem.W.Frag) : Sp := fun vs H Q _ => ∃ (v : V) (lo hi : Int), vs = [v, .int lo, .int hi] ∧ ((∃ i, v = .int i ∧ Q (.bl (decide (lo ≤ i ∧ i ≤ hi))) H) ∨ (∃ n, Kd K H v n ∧ n ≠ "int" ∧ Q (.bl false) H))
def sp_is_row (K : PySem.W.Frag) : Sp := fun vs H Q _ => ∃ (v : V) (m : Int), vs = [v, .int m] ∧ ((∃ a xs, v = .ref a ∧ SqT K H a xs ∧ Q (.bl (decide ((xs.length : Int) = m))) H) ∨ (∃ n, Kd K H v n ∧ n ≠ "tuple" ∧ Q (.bl false) H))
section
variable {K : PySem.W.Frag} {H : Hp} {Q : VK} {E : XK}
theorem u_within {i lo hi : Int} (k : Q (.bl (decide (lo ≤ i ∧ i ≤ hi))) H) : sp_is_within K ([.int i, .int lo, .int hi] ++ []) H Q E := ⟨_, _, _, rfl, .inl ⟨_, rfl, k⟩⟩
theorem u_row {a : Addr} {xs : List V} {m : Int} (h : SqT K H a xs) (k : Q (.bl (decide ((xs.length : Int) = m))) H) : sp_is_row K ([.ref a, .int m] ++ []) H Q E := ⟨_, _, rfl, .inl ⟨_, _, rfl, h, k⟩⟩
theorem u_neRing (F : RingK K) {a b : Addr} {l m : List Nat} (h : RingAt K H a l) (h2 : RingAt K H b m) (k : Q (.bl (!decide (l = m))) H) : rNeA K (He.ga K "Ring") (sp_Ring_eq K) E (.ref a) (.ref b) H Q := by
  obtain ⟨dx, h'⟩ := id h
  obtain ⟨dy, h2'⟩ := id h2
  exact ⟨a, dx, _, _, rfl, h', F.ty _ _ _ _ h2', notFirst_own, a, _, rfl, l, h, .inl ⟨b, m, rfl, h2, _, rfl, k⟩⟩
theorem s_listS {l : List Nat} (h : l.length ≤ sizeLine) (k : ∀ p H2, H p = none → Ex [] H H2 → H2 p = some (.lst (l.map fun c => vS [c])) → Q (.ref p) H2) : rListS [vS l] H Q := ⟨l, rfl, h, k⟩
end
end WB
namespace WB
open PySem PySem.Spec PyProof.Rows L2
local macro_rules | `(tactic| walk_at "lit") => `(tactic| first | exact lit_abc | exact lit_empty)
local macro_rules | `(tactic| walk_at "nm") => `(tactic| focus first | exact List.not_mem_nil | (simp only [List.mem_singleton]; first | assumption | (exact Ne.symm (by assumption)) | (intro hz; subst hz; simp_all; done)))
local macro_rules | `(tactic| walk_at "hp") => `(tactic| first | assumption | (apply Ex.get0 (by assumption); walk_at "hp") | (apply Ex.get (by assumption); (walk_at "nm"); (walk_at "hp")))
local macro_rules | `(tactic| walk_at "sq") => `(tactic| first | assumption | (apply SqL.of; walk_at "hp") | (apply Ex.sqL (by assumption); (walk_at "nm"); (walk_at "sq")))
local macro_rules | `(tactic| walk_at "sqt") => `(tactic| first | assumption | (apply SqT.of; walk_at "hp") | (apply Ex.sqT (by assumption); (walk_at "nm"); (walk_at "sqt")))
local macro_rules | `(tactic| walk_at "sz") => `(tactic| focus ((with_reducible refine Nat.le_trans (m := 100000) ?_ (by decide)); first | omega | (simp; done) | (simp; omega)))
local macro_rules | `(tactic| walk_at "mul") => `(tactic| first | exact Or.inr ⟨by omega, by omega⟩ | exact Or.inl ⟨by omega, by omega⟩)
local macro_rules | `(tactic| walk_at "pool") => `(tactic| first | assumption | (apply PoolAt.ex (by assumption); (walk_at "nm"); (walk_at "pool")))
local macro_rules | `(tactic| walk_at "ring") => `(tactic| first | assumption | (apply RingAt.ex (by assumption); (walk_at "nm"); (walk_at "ring")))
local macro_rules | `(tactic| walk_at "st") => `(tactic| first
  | with_reducible refine s_seq ?_
  | with_reducible refine s_asg ?_
  | with_reducible refine s_gName ?_
  | with_reducible refine s_ret ?_
  | with_reducible refine s_ifS ?_
  | with_reducible refine s_next ?_
  | with_reducible refine s_op ?_
  | ((with_reducible apply s_var); exact rfl)
  | ((with_reducible apply s_cS); (walk_at "lit"))
  | with_reducible refine s_c ?_
  | with_reducible refine s_cb ?_
  | with_reducible refine s_cons ?_
  | with_reducible refine s_nil ?_
  | with_reducible refine s_un ?_
  | with_reducible refine s_call ?_
  | with_reducible refine s_test ?_
  | with_reducible refine s_tB ?_
  | with_reducible refine s_blQ ?_
  | with_reducible refine s_not ?_
  | with_reducible refine s_and ?_
  | with_reducible refine s_or ?_
  | with_reducible refine s_andV ?_
  | with_reducible refine s_orV ?_
  | with_reducible refine s_notV ?_
  | with_reducible refine s_ifE ?_
  | with_reducible refine s_chain ?_
  | ((with_reducible refine s_T ?_ ?_); (with_reducible exact rfl))
  | with_reducible refine s_nT ?_
  | with_reducible refine s_nF ?_
  | ((with_reducible refine s_F ?_ ?_); (with_reducible exact rfl))
  | ((with_reducible refine s_T ?_ ?_); assumption)
  | ((with_reducible refine s_F ?_ ?_); assumption)
  | ((with_reducible refine s_nB ?_ ?_); assumption)
  | ((with_reducible refine s_nA ?_ ?_); assumption)
  | ((with_reducible refine s_Td ?_ ?_); omega)
  | ((with_reducible refine s_Fd ?_ ?_); omega)
  | ((with_reducible refine s_nTd ?_ ?_); omega)
  | ((with_reducible refine s_nFd ?_ ?_); omega)
  | with_reducible refine s_sfld ?_
  | with_reducible refine s_addI ?_
  | with_reducible refine s_subI ?_
  | ((with_reducible refine s_mulI ?_ ?_); (walk_at "mul"))
  | ((with_reducible refine s_divI ?_ ?_); exact ⟨by omega, by omega⟩)
  | ((with_reducible refine s_modI ?_ ?_); omega)
  | ((with_reducible refine s_powI ?_ ?_); exact ⟨by decide, by decide, by decide⟩)
  | with_reducible refine s_ltI ?_
  | with_reducible refine s_leI ?_
  | with_reducible refine s_gtI ?_
  | with_reducible refine s_geI ?_
  | with_reducible refine s_negI ?_
  | with_reducible refine s_absI ?_
  | with_reducible refine s_intI ?_
  | with_reducible refine s_min2 ?_
  | with_reducible refine s_max2 ?_
  | with_reducible refine s_eqI ?_
  | with_reducible refine s_neI ?_
  | with_reducible refine s_eqS ?_
  | with_reducible refine s_neS ?_
  | with_reducible refine s_inSg ?_
  | with_reducible refine s_notInSg ?_
  | ((with_reducible refine s_addS ?_ ?_); (walk_at "sz"))
  | ((with_reducible refine s_lenS ?_ ?_); (walk_at "sz"))
  | ((with_reducible apply s_lenL); (walk_at "sq"))
  | ((with_reducible apply s_lenT); (walk_at "sqt"))
  | ((with_reducible apply s_ixL); (walk_at "sq"); exact rfl)
  | ((with_reducible apply s_ixT); (walk_at "sqt"); exact rfl)
  | with_reducible refine s_gSub ?_
  | ((with_reducible apply s_setL); (walk_at "hp"); (exact rfl); (intro _ _ _))
  | ((with_reducible refine s_alloc ?_ ?_); (walk_at "sz"); (intro _ _ _ _ _))
  | ((with_reducible refine s_divmod ?_ ?_); (exact ⟨by omega, PyProof.noPylong_small (by omega)⟩); (intro _ _ _ _ _))
  | ((with_reducible apply s_gTup); (walk_at "sqt"); (exact rfl))
  | ((with_reducible apply s_gLst); (walk_at "sq"); (exact rfl))
  | with_reducible refine s_gCons ?_
  | with_reducible refine s_gNil ?_
  | with_reducible refine s_lc ?_
  | ((with_reducible apply s_cat); (walk_at "hp"); (walk_at "hp"); (walk_at "sz"); (intro _ _ _ _ _))
  | ((with_reducible apply s_slL); (walk_at "sq"); (intro _ _ _ _ _))
  | with_reducible refine s_for ?_
  | with_reducible refine s_rng1 ?_
  | ((with_reducible refine s_rng1i ?_ ?_); (constructor <;> omega))
  | with_reducible refine s_rng2 ?_
  | ((with_reducible refine s_rng2i ?_ ?_); (refine ⟨?_, ?_, ?_, ?_⟩ <;> omega))
  | with_reducible refine s_iStr ?_
  | with_reducible refine s_iStrS ?_
  | with_reducible refine s_iList ?_
  | ((with_reducible apply s_iListA); (walk_at "sq"))
  | with_reducible refine s_iTup ?_
  | ((with_reducible apply s_iTupA); (walk_at "sqt"))
  | with_reducible refine s_sl ?_
  | with_reducible refine s_noPart ?_
  | with_reducible refine s_part ?_
  | with_reducible refine s_int1 ?_
  | ((with_reducible refine s_slS ?_ ?_); (walk_at "sz"))
  | with_reducible refine s_tup ?_
  | with_reducible refine s_lst ?_
  | with_reducible refine s_par ?_
  | with_reducible refine s_pair ?_
  | with_reducible refine s_M1 ?_
  | with_reducible refine s_isStr ?_
  | with_reducible refine s_revS ?_
  | ((with_reducible refine s_revS1 ?_ ?_); (walk_at "sz"))
  | with_reducible refine s_fldE ?_
  | with_reducible refine s_propE ?_
  | ((with_reducible refine u_draw ?_ ?_ ?_ ?_); omega; omega; (walk_at "pool"); (intro _ _ _ _ _ _))
  | ((with_reducible refine u_pool ?_); (intro _ _ _ _ _))
  | with_reducible refine u_is_integer ?_
  | with_reducible refine s_isiII ?_
  | with_reducible refine s_isiIB ?_
  | with_reducible refine s_isiSS ?_
  | ((with_reducible apply u_fldRing); assumption; (walk_at "ring"))
  | ((with_reducible apply u_textP); (walk_at "ring"))
  | ((with_reducible apply u_strRing); (walk_at "ring"))
  | ((with_reducible apply u_eqRing); (walk_at "ring"); (walk_at "ring"))
  | ((with_reducible apply u_isiRing); assumption; (walk_at "ring"))
  | ((with_reducible refine u_is_word ?_ ?_); omega; (intro _ _))
  | ((with_reducible refine u_turnings ?_ ?_); omega; (intro _ _ _ _ _))
  | with_reducible refine s_makeE ?_
  | with_reducible refine s_methE ?_)
local macro_rules | `(tactic| walk_at "go") => `(tactic| repeat (walk_at "st"))
local macro_rules | `(tactic| walk_at "exs") => `(tactic| first | exact Ex.rfl | assumption | (apply Ex.snoc (by assumption); walk_at "exs") | (apply Ex.snocW (by assumption); walk_at "exs"))
def t_is_within (K : PySem.W.Frag) : TS :=
  (tRet (tAndV (tCall (sp_is_integer K) [] E0 (tCons (tVar 0) tNil)) (tChain rLeI rLeI (tVar 1) (tVar 0) (tVar 2))))
def t_is_row (K : PySem.W.Frag) : TS :=
  (tRet (tAndV (tCB (rIsi K) (tCons (tVar 0) (tCons (tC (.ty "tuple")) tNil))) (tOp rEq (tCB (rLenV K) (tCons (tVar 0) tNil)) (tVar 1))))
section
variable {K : PySem.W.Frag} {vs : List V} {H : Hp} {Q : VK} {E : XK}
theorem pure_is_within (h : sp_is_within K vs H Q E) : t_is_within K (E1 Q) (start ["value", "least", "most"] vs) H := by
  obtain ⟨v, lo, hi, rfl, h⟩ := h
  show t_is_within K (E1 Q) [some v, some (.int lo), some (.int hi)] H
  unfold t_is_within
  walk_at "go"
  rcases h with ⟨i, rfl, k⟩ | ⟨n, hk, hn, k⟩
  · walk_at "go"
    refine s_2 (fun hb => ?_) (fun hb => ?_)
    · have hb := of_decide_eq_true hb
      walk_at "go"
      have e : decide (i ≤ hi) = decide (lo ≤ i ∧ i ≤ hi) := by simp [hb]
      rw [e]
      exact k
    · have hb := of_decide_eq_false hb
      have e : false = decide (lo ≤ i ∧ i ≤ hi) := by simp [hb]
      rw [e]
      exact k
  · refine u_not_integer hk hn ?_
    walk_at "go"
    exact k
theorem pure_is_row (h : sp_is_row K vs H Q E) : t_is_row K (E1 Q) (start ["value", "length"] vs) H := by
  obtain ⟨v, m, rfl, h⟩ := h
  show t_is_row K (E1 Q) [some v, some (.int m)] H
  unfold t_is_row
  walk_at "go"
  rcases h with ⟨a, xs, rfl, hs, k⟩ | ⟨n, hk, hn, k⟩
  · refine s_isiK (Kd.tup hs) (b := true) (by decide +kernel) ?_
    walk_at "go"
    exact k
  · have hm := hk.2
    simp only [KD, List.mem_cons, List.not_mem_nil, or_false] at hm
    rcases hm with rfl | rfl | rfl | rfl | rfl | rfl | rfl
    all_goals first
      | exact absurd rfl hn
      | (refine s_isiK hk (b := false) (by decide +kernel) ?_
         walk_at "go"
         exact k)
variable (F : RingK K)
include F
end
end WB
namespace WB
open PySem PySem.Spec PyProof.Rows L2
theorem mem_cut {l : List Nat} {lo hi : Option Int} {c : Nat} (h : c ∈ cut l lo hi) : c ∈ l := List.mem_of_mem_drop (List.mem_of_mem_take h)
theorem plain_app {l m : List Nat} (h : plain l) (h2 : plain m) : plain (l ++ m) := fun c hc => by
  rcases List.mem_append.mp hc with z | z
  · exact h c z
  · exact h2 c z
theorem plain_cut {l : List Nat} {lo hi : Option Int} (h : plain l) : plain (cut l lo hi) := fun c hc => h c (mem_cut hc)
theorem plain_sub {l m : List Nat} (h : plain l) (hm : ∀ c ∈ m, c ∈ l) : plain m := fun c hc => h c (hm c hc)
theorem rot_get {l : List Nat} {j k : Nat} (hj : j < l.length) (hk : k < l.length) : (rot l j)[k]? = l[(j + k) % l.length]? := by
  unfold rot
  by_cases h : j + k < l.length
  · rw [List.getElem?_append_left (by simp; omega), List.getElem?_drop, Nat.mod_eq_of_lt h]
  · rw [List.getElem?_append_right (by simp; omega), List.length_drop, List.getElem?_take, if_pos (by omega)]
    congr 1
    rw [Nat.mod_eq_sub_mod (by omega), Nat.mod_eq_of_lt (by omega)]
    omega
end WB
namespace WB
open PySem PySem.Spec PyProof.Rows L2
def oddS : List (List Nat) := [[], [97], [97, 98], [65], [97, 32, 98], [97, 97], [97, 10], [97, 98, 99, 100, 101]]
def kA : Key := .inr "a"
inductive OddAt (m : List Addr) (H : Hp) : V → Prop
  | non : OddAt m H .non
  | bl (b : Bool) : OddAt m H (.bl b)
  | int (i : Int) (h : i.natAbs ≤ 10 ^ 38) : OddAt m H (.int i)
  | str (l : List Nat) (h : l ∈ oddS) : OddAt m H (vS l)
  | l0 {a : Addr} (n : a ∉ m) (h : H a = some (.lst [])) : OddAt m H (.ref a)
  | l1 {a : Addr} (n : a ∉ m) (h : H a = some (.lst [vS [97]])) : OddAt m H (.ref a)
  | d0 {a : Addr} (n : a ∉ m) (h : H a = some (.dK [])) : OddAt m H (.ref a)
  | d1 {a : Addr} (n : a ∉ m) (h : H a = some (.dK [(kA, .int 1)])) : OddAt m H (.ref a)
  | t0 {a : Addr} (n : a ∉ m) (h : H a = some (.tup [])) : OddAt m H (.ref a)
  | t1 {a : Addr} (n : a ∉ m) (h : H a = some (.tup [vS [97]])) : OddAt m H (.ref a)
  | t2 {a : Addr} (n : a ∉ m) (h : H a = some (.tup [.int 0, .int 1])) : OddAt m H (.ref a)
  | t3 {a b c d e : Addr} (n : a ∉ m) (nb : b ∉ m) (nc : c ∉ m) (nd : d ∉ m) (ne : e ∉ m) (h : H a = some (.tup [.ref b, .ref c])) (hb : H b = some (.lst [])) (hc : H c = some (.dK [(kA, .ref d)])) (hd : H d = some (.tup [.int 1, .ref e])) (he : H e = some (.lst [])) : OddAt m H (.ref a)
theorem OddAt.ex {m : List Addr} {H H' : Hp} {v : V} (e : Ex m H H') (h : OddAt m H v) : OddAt m H' v := by
  cases h with
  | non => exact .non
  | bl b => exact .bl b
  | int i h => exact .int i h
  | str l h => exact .str l h
  | l0 n h => exact .l0 n (e _ _ n h)
  | l1 n h => exact .l1 n (e _ _ n h)
  | d0 n h => exact .d0 n (e _ _ n h)
  | d1 n h => exact .d1 n (e _ _ n h)
  | t0 n h => exact .t0 n (e _ _ n h)
  | t1 n h => exact .t1 n (e _ _ n h)
  | t2 n h => exact .t2 n (e _ _ n h)
  | t3 n nb nc nd ne h hb hc hd he => exact .t3 n nb nc nd ne (e _ _ n h) (e _ _ nb hb) (e _ _ nc hc) (e _ _ nd hd) (e _ _ ne he)
theorem Kd.dict {K : PySem.W.Frag} {H : Hp} {a : Addr} {kvs : List (Key × V)} (h : H a = some (.dK kvs)) : Kd K H (.ref a) "dict" := ⟨.base (.dK h), by decide +kernel⟩
theorem OddAt.kd {K : PySem.W.Frag} {m : List Addr} {H : Hp} {v : V} (h : OddAt m H v) : (∃ l ∈ oddS, v = vS l) ∨ ∃ n, Kd K H v n ∧ n ≠ "str" := by
  cases h with
  | non => exact .inr ⟨_, .non, by decide⟩
  | bl b => exact .inr ⟨_, .bl, by decide⟩
  | int i h => exact .inr ⟨_, .int, by decide⟩
  | str l h => exact .inl ⟨l, h, rfl⟩
  | l0 n h => exact .inr ⟨_, .lst h, by decide⟩
  | l1 n h => exact .inr ⟨_, .lst h, by decide⟩
  | d0 n h => exact .inr ⟨_, .dict h, by decide⟩
  | d1 n h => exact .inr ⟨_, .dict h, by decide⟩
  | t0 n h => exact .inr ⟨_, .tup (SqT.of h), by decide⟩
  | t1 n h => exact .inr ⟨_, .tup (SqT.of h), by decide⟩
  | t2 n h => exact .inr ⟨_, .tup (SqT.of h), by decide⟩
  | t3 n nb nc nd ne h hb hc hd he => exact .inr ⟨_, .tup (SqT.of h), by decide⟩
section
variable {K : PySem.W.Frag} {H : Hp} {Q : VK} {E : XK}
theorem s_dnew (k : ∀ p H2, H p = none → Ex [] H H2 → H2 p = some (.dK []) → Q (.ref p) H2) {σ : St} : tDNewK σ H Q := fun p hp => k p _ hp (Ex.new hp) upd_same
theorem s_pairs1 {σ : St} {ta tb : TE} {R : List (V × V) → Hp → Prop} (k : ta σ H fun x H1 => tb σ H1 fun y H2 => R [(x, y)] H2) : tPairs [(ta, tb)] σ H R := k
theorem lc_fmR {n j : Nat} {lo : Int} {tt : TT} {te : TE} {σ : St} (hn : n ≤ 100000) (p : Nat → Bool) (val : Nat → V)
    (h : ∀ (i : Nat) (H1 : Hp) (C1 : VK) (C0 : Hp → Prop), i < n → Ex [] H H1 → (∀ H2, Ex [] H1 H2 → p i = true → C1 (val i) H2) → (∀ H2, Ex [] H1 H2 → p i = false → C0 H2) →
      tt ((wipe σ [j]).set j (some (.int (lo + i)))) H1 fun b H2 => if b = true then te ((wipe σ [j]).set j (some (.int (lo + i)))) H2 C1 else C0 H2)
    (k : ∀ D H', H D = none → Ex [] H H' → H' D = some (.lst (((List.range n).filter p).map val)) → Q (.ref D) H') : LcW (Itr lo n) (gName j) tt te [j] σ H Q := by
  refine lc_run walk_range hn [] (fun _ => True) (fun i acc _ => acc = ((List.range i).filter p).map val) (by simp) trivial (by simp) (fun _ _ _ _ _ => trivial) (fun _ _ _ _ _ _ h => h) (fun _ _ => trivial) ?_ ?_
  · rintro i acc x H1 H2 C1 C0 hi e _ rfl ⟨rfl, rfl⟩ k1 k0
    refine ⟨wipe1 _ _ _, ?_⟩
    refine h i H2 C1 C0 hi e (fun H5 e5 hp => k1 _ H5 e5 trivial ?_) (fun H5 e5 hp => k0 H5 e5 trivial ?_)
    · rw [List.range_succ, List.filter_append, List.map_append]
      simp [hp]
    · rw [List.range_succ, List.filter_append, List.map_append]
      simp [hp]
  · rintro D H' ys hD e _ hd _ rfl
    exact k D H' hD e hd
theorem dp_all {f : α → V} {g : α → PyData} (h : ∀ x, Dp K H (f x) (g x)) : ∀ l : List α, DpAll K H (l.map f) (l.map g)
  | [] => .nil
  | x :: l => .cons (h x) (dp_all h l)
theorem canLay_all {g : α → PyData} (h : ∀ x, PyData.canLay0 (g x) = true) : ∀ l : List α, PyData.canLayAll0 (l.map g) = true
  | [] => by simp [PyData.canLayAll0]
  | x :: l => by
    rw [List.map_cons, PyData.canLayAll0]
    exact Bool.and_eq_true_iff.mpr ⟨h x, canLay_all h l⟩
theorem depth_all {g : α → PyData} (h : ∀ x, PyData.depth (g x) = 0) : ∀ l : List α, PyData.depthAll (l.map g) = 0
  | [] => by simp [PyData.depthAll]
  | x :: l => by
    rw [List.map_cons, PyData.depthAll, depth_all h l, h x]
    rfl
theorem shaped_ints (l : List Int) : SeqAt.shaped (.list (l.map PyData.int)) = true := by
  unfold SeqAt.shaped
  refine Bool.and_eq_true_iff.mpr ⟨?_, decide_eq_true ?_⟩
  · rw [PyData.canLay0]; exact canLay_all (fun x => by simp [PyData.canLay0]) l
  · rw [PyData.depth, depth_all (fun x => by simp [PyData.depth]) l]; omega
theorem eqv_nil {ds : List PyData} : PyData.eqv (.list ds) (.list []) = ds.isEmpty := by
  cases ds with
  | nil => simp [PyData.eqv, PyData.eqvAll]
  | cons d ds => simp [PyData.eqv, PyData.eqvAll]
theorem s_eqLSnil {a b : Addr} {ls : List (List Nat)} (h1 : SqL K H a (ls.map vS)) (h2 : SqL K H b []) (p1 : ∀ l ∈ ls, plain l) (k : Q (.bl ls.isEmpty) H) : rEqD K (.ref a) (.ref b) H Q := by
  refine ⟨_, _, .lst h1 (dp_strs ls), .lst h2 .nil, shaped_strs p1, by decide +kernel, ?_⟩
  rw [eqv_nil]
  cases ls <;> exact k
end
end WB
namespace WB
open PySem PySem.Spec PyProof.Rows L2
def ndc {α : Type} [DecidableEq α] : List α → Nat
  | [] => 0
  | x :: r => if x ∈ r then ndc r else ndc r + 1
theorem ndc_le {α : Type} [DecidableEq α] : ∀ l : List α, ndc l ≤ l.length
  | [] => Nat.le_refl _
  | x :: r => by
    have := ndc_le r
    rw [ndc, List.length_cons]
    split <;> omega
theorem ndc_full {α : Type} [DecidableEq α] : ∀ l : List α, ndc l = l.length ↔ l.Nodup
  | [] => by simp [ndc]
  | x :: r => by
    have h1 := ndc_le r
    rw [ndc, List.length_cons, List.nodup_cons, ← ndc_full r]
    split
    · rename_i h
      constructor
      · intro z; omega
      · intro z; exact absurd h z.1
    · rename_i h
      constructor
      · intro z; exact ⟨h, by omega⟩
      · intro z; omega
theorem take_rev {α : Type} {xs : List α} {i : Nat} (h : i < xs.length) : (xs.take (i + 1)).reverse = xs[i] :: (xs.take i).reverse := by
  rw [List.take_add_one, List.getElem?_eq_getElem h]
  simp
section
variable {prog : Program} {w : World} {A : Around} {R : Result → Shared → Prop} {J : Addr} {fp wr : List Addr} {n : Nat} {P : Nat → Value → Prop} {St : Nat → Heap → Prop}
theorem setLoop (W : Walks prog w A.in1 J fp wr n P St) (c : Addr) (hc : c ∉ fp) (xs : List Str) (hx : xs.length = n) (hb : n < 4000) (hv : ∀ i v, P i v → ∃ t, v = .str (xs.getD i Str.empty) t) :
    ∀ (m i : Nat) (s : Shared), n - i = m → i ≤ n → St i s.heap → s.heap.SetOf (PySem.strKind prog w) c (fun z => decide (z ∈ xs.take i)) (ndc (xs.take i).reverse) →
      (∀ h' tk, (∀ b o, b ∉ c :: wr → s.heap.get? b = some o → h'.get? b = some o) → h'.SetOf (PySem.strKind prog w) c (fun z => decide (z ∈ xs)) (ndc xs.reverse) → R (.ok (.ret .none)) { s with heap := h', toks := tk }) →
      codeAny (model prog w) A (.builtin "set.update.loop" ⟨[.ref c, .ref J], []⟩) R s := by
  have cw : c ∉ wr := fun z => hc (W.sub _ z)
  intro m
  induction m with
  | zero =>
    intro i s e1 e2 st hs k
    obtain rfl : i = n := by omega
    refine codeAny_builtin PyProof.Rows.F.entry_set_update_loop ?_
    rw [Around.under_plainId PyProof.Rows.F.plain_set_update_loop _]
    show wpAny _ _ (pyNext (.ref J) >>= _) _ _ _
    refine wpAny_bind (W.done s _ _ st fun h1 t1 k1 => ?_)
    refine (show wpAny _ _ (ret Value.none) _ _ _ from wpAny_pure (k h1 t1 (fun b o z => k1 b o fun y => z (List.mem_cons_of_mem _ y)) ?_))
    rw [List.take_of_length_le (by omega)] at hs
    obtain ⟨o, es, ep, t, ho, r⟩ := hs
    exact ⟨o, es, ep, t, k1 c o cw ho, r⟩
  | succ m ih =>
    intro i s e1 e2 st hs k
    have lt : i < n := by omega
    have lt2 : i < xs.length := by omega
    refine codeAny_builtin PyProof.Rows.F.entry_set_update_loop ?_
    rw [Around.under_plainId PyProof.Rows.F.plain_set_update_loop _]
    show wpAny _ _ (pyNext (.ref J) >>= _) _ _ _
    refine wpAny_bind (W.item i s _ _ lt st fun v h1 t1 hP st1 k1 => ?_)
    obtain ⟨t, rfl⟩ := hv i v hP
    have eg : xs.getD i Str.empty = xs[i] := by rw [List.getD_eq_getElem?_getD, List.getElem?_eq_getElem lt2]; rfl
    rw [eg]
    have hs1 : h1.SetOf (PySem.strKind prog w) c (fun z => decide (z ∈ xs.take i)) (ndc (xs.take i).reverse) := by
      obtain ⟨o, es, ep, t', ho, r⟩ := hs
      exact ⟨o, es, ep, t', k1 c o cw ho, r⟩
    have hl := ndc_le (xs.take i).reverse
    rw [List.length_reverse, List.length_take] at hl
    show wpAny _ _ (holding [Value.str xs[i] t] (setAdd c (.str xs[i] t)) >>= _) _ _ _
    unfold setAdd
    refine wpAny_bind (wpAny_holding (wpAny_holding (wpAny_bind ((PySem.strKind prog w).pyHash (k := xs[i]) (strKind_is _ _ _ _) ?_))))
    refine wpAny_setAddHashed_of (knd := PySem.strKind prog w) (s := ⟨h1, s.gens, s.drawn, t1 + 1, s.os⟩) (strKind_is _ _ _ _) rfl hs1 (by unfold scanBound; omega) fun h2 sb hs2 => ?_
    have hs3 : h2.SetOf (PySem.strKind prog w) c (fun z => decide (z ∈ xs.take (i + 1))) (ndc (xs.take (i + 1)).reverse) := by
      refine SetOf_congr hs2 (fun z => ?_) ?_
      · rw [List.take_add_one, List.getElem?_eq_getElem lt2, Bool.eq_iff_iff, Bool.or_eq_true, decide_eq_true_iff, decide_eq_true_iff, decide_eq_true_iff, List.mem_append]
        simp
      · rw [take_rev lt2, ndc]
        simp
    refine wpAny_pure ⟨plainId_quiet PyProof.Rows.F.plain_set_update_loop _, ih (i + 1) ⟨h2, s.gens, s.drawn, t1 + 1, s.os⟩ (by omega) lt (W.frame _ h1 _ st1 fun b hbf o e => ?_) hs3 fun h3 t3 k3 hs4 => ?_⟩
    · rw [sb.2 b (fun z : b = c => hc (by rw [← z]; exact hbf))]; exact e
    · refine k h3 t3 (fun b o z e => k3 b o z ?_) hs4
      rw [sb.2 b (fun y : b = c => z (by rw [y]; exact List.mem_cons_self))]
      exact k1 b o (fun y => z (List.mem_cons_of_mem _ y)) e
end
section
variable {prog : Program} {w : World} {A : Around} {E : Value → Shared → Prop} {s : Shared}
abbrev newSetO (led : Bool) : Obj := { cls := .type "set", dict := none, data := .set #[] 0 (.fresh 0 0 led) }
structure Src (prog : Program) (w : World) (h : Heap) (src : Value) (xs : List Str) : Prop where
  any : ∀ {A : Around} {E : Value → Shared → Prop} {s : Shared} {Q : Bool → Shared → Prop}, (∀ b o, h.get? b = some o → s.heap.get? b = some o) → Q false s → wpAny (model prog w) A (Builtin.Frozenset.isAnySet src) Q E s
  ty : ∀ {A : Around} {E : Value → Shared → Prop} {s : Shared} {Q : Value → Shared → Prop}, (∀ b o, h.get? b = some o → s.heap.get? b = some o) → (∀ t, (t == Value.type "dict") = false → Q t s) → wpAny (model prog w) A (typeOf src) Q E s
  it : ∀ {A : Around} {E : Value → Shared → Prop} {s : Shared} {Q : Value → Shared → Prop}, (∀ b o, h.get? b = some o → s.heap.get? b = some o) →
    (∀ (o : Obj) (fp : List Addr) (P : Nat → Value → Prop) (St : Nat → Heap → Prop), (∀ b ∈ fp, b = s.heap.objs.size ∨ b < h.objs.size) → (∀ i v, P i v → ∃ t, v = .str (xs.getD i Str.empty) t) →
      (∀ A' : Around, A'.handled = none → Walks prog w A' s.heap.objs.size fp [s.heap.objs.size] xs.length P St) → St 0 (s.heap.push o) → Q (.ref s.heap.objs.size) { s with heap := s.heap.push o }) → wpAny (model prog w) A (pyIter src) Q E s
theorem updFrom {src : Value} {xs : List Str} {s0 : Heap} {c : Addr} {id : String} {led : Bool} {Q : Unit → Shared → Prop} (hh : A.handled = none) (hs : Src prog w s0 src xs) (hb : xs.length < 4000) (up : ∀ b o, s0.get? b = some o → s.heap.get? b = some o) (hc : s0.objs.size ≤ c) (ho : s.heap.get? c = some (newSetO led))
    (h : ∀ (h' : Heap) (tk : Nat), h'.SetOf (PySem.strKind prog w) c (fun z => decide (z ∈ xs)) (ndc xs.reverse) → (∀ b o, b ≠ c → s.heap.get? b = some o → h'.get? b = some o) → Q () { s with heap := h', toks := tk }) :
    wpAny (model prog w) A (Builtin.Frozenset.updateFrom id c src) Q E s := by
  unfold Builtin.Frozenset.updateFrom
  refine wpAny_bind (hs.any up ?_)
  show wpAny _ _ (do let __do_lift ← typeOf src; _) _ _ _
  refine wpAny_bind (hs.ty up fun t ht => ?_)
  rw [ht]
  show wpAny _ _ (pyIter src >>= _) _ _ _
  refine wpAny_bind (hs.it up fun o fp P St hfp hv hW st => ?_)
  refine wpAny_bind (wpAny_runValue ?_)
  have lt : c < s.heap.objs.size := Heap.lt_size ho
  refine setLoop (hW _ (by simp [hh])) c ?_ xs rfl hb hv (xs.length - 0) 0 { s with heap := s.heap.push o } rfl (Nat.zero_le _) st ?_ fun h' tk k hS => ?_
  · intro z
    rcases hfp c z with e | e
    · exact Nat.ne_of_lt lt e
    · exact Nat.not_lt.mpr hc e
  · exact PyProof.Rows.SetOf_congr ((PyProof.Rows.setObjOf_fresh (knd := PySem.strKind prog w) led).setOf (Heap.get?_push_of_some o ho) (by unfold scanBound; omega)) (fun z => by simp) (by simp [ndc])
  · refine wpAny_pure (h h' tk hS fun b u nb e => k b u ?_ (Heap.get?_push_of_some o e))
    have := Heap.lt_size e
    simp only [List.mem_cons, List.not_mem_nil, or_false, not_or]
    exact ⟨nb, Nat.ne_of_lt this⟩
theorem call_setS {src : Value} {xs : List Str} {Q : Value → Shared → Prop} (hh : A.handled = none) (hs : Src prog w s.heap src xs) (hb : xs.length < 4000)
    (h : ∀ (h' : Heap) (tk : Nat), h'.SetOf (PySem.strKind prog w) s.heap.objs.size (fun z => decide (z ∈ xs)) (ndc xs.reverse) → (∀ b o, s.heap.get? b = some o → h'.get? b = some o) → Q (.ref s.heap.objs.size) { s with heap := h', toks := tk }) :
    wpAny (model prog w) A (call (.type "set") [src]) Q E s := by
  obtain ⟨c, tl, hmro⟩ := PySem.F.called_set.mro
  have q1 := PySem.F.called_set.made
  have q2 := PySem.F.called_set.sub
  have q3 := PySem.F.called_set.notType
  have q4 := PySem.F.called_set.canCreate
  have q5 := PySem.F.typeCall_set_1 src
  refine wpAny_call (codeAny_of_tree (show wpAny _ _ (callAny (.type "set") _) _ _ _ from wpAny_pure ⟨Code.quiet_builtin _ (by decide +kernel), codeAny_builtin PySem.F.entry_type_call ?_⟩))
  rw [Around.under_plain (weight_type_call_type "set" [src] []) rfl]
  repeat (any_goals (first | assumption | wp_step))
  refine codeAny_mono (code_set_new_1 src (E := E) (Q₁ := fun o s₁ => ∃ led : Bool, o = .ref s.heap.objs.size ∧ s₁ = { s with heap := s.heap.push (newSetO led) }) fun led => ⟨led, rfl, rfl⟩) fun r s₁ hr => ?_
  cases r with
  | error e => exact hr
  | ok fl =>
    cases fl with
    | ret o1 =>
      obtain ⟨led, rfl, rfl⟩ := hr
      have hS : (s.heap.push (newSetO led)).get? s.heap.objs.size = some (newSetO led) := Heap.get?_push_size _ rfl
      have hT : Shared.TypeIs { s with heap := s.heap.push (newSetO led) } (.ref s.heap.objs.size) "set" := ⟨_, hS, rfl⟩
      have q6 := PySem.F.called_set.init.lookup
      have q7 := PySem.F.called_set.init.bind (.ref s.heap.objs.size)
      repeat (any_goals (first | assumption | wp_step))
      refine codeAny_mono (codeAny_call_builtin (R := wants (fun r s₂ => r = .none ∧ ∃ h' tk, s₂ = { s with heap := h', toks := tk } ∧ h'.SetOf (PySem.strKind prog w) s.heap.objs.size (fun z => decide (z ∈ xs)) (ndc xs.reverse) ∧
          (∀ b o, s.heap.get? b = some o → h'.get? b = some o)) E) PySem.F.called_set.init.plain PySem.F.entry_set_init (check_set_init_1 hT ?_)) fun r₂ s₂ hr₂ => ?_
      · have up : ∀ b o, s.heap.get? b = some o → (s.heap.push (newSetO led)).get? b = some o := fun b o e => Heap.get?_push_of_some _ e
        unfold Builtin.«set.__init__» noKeywords
        generalize hPI : Builtin.Frozenset.updateFrom = UF
        wp_walk
        subst hPI
        refine updFrom (s := { s with heap := s.heap.push (newSetO led) }) (by simp [hh]) hs hb up (Nat.le_refl _) hS fun h' tk x1 x2 => ?_
        refine (show wpAny _ _ (ret Value.none) _ _ _ from wpAny_pure ⟨rfl, h', tk, rfl, x1, fun b o e => x2 b o (Nat.ne_of_lt (Heap.lt_size e)) (up b o e)⟩)
      · cases r₂ with
        | error e => exact hr₂
        | ok fl₂ =>
          cases fl₂ with
          | ret r =>
            obtain ⟨rfl, h', tk, rfl, x1, x2⟩ := hr₂
            repeat (any_goals (first | assumption | wp_step))
            exact h _ _ x1 x2
          | _ => exact hr₂.elim
    | _ => exact hr.elim
theorem src_str {h : Heap} (x : Str) (u : Tok) : Src prog w h (.str x u) (x.cps.toList.map fun c => ⟨#[c]⟩) where
  any := fun _ q => L2.Fz.anySet q
  ty := fun _ q => wpAny_typeOf (typeIs_str _ _ _) (q _ (by decide))
  it := fun {A E s Q} _ q => wpAny_pyIter_str fun o St hW st => by
    refine q o [s.heap.objs.size] (SignAt x) St (fun b hb => .inl (List.mem_singleton.mp hb)) (fun i v hv => ?_) (fun A' hA => ?_) st
    · obtain ⟨c, u, hc, e⟩ := hv
      refine ⟨u, ?_⟩
      rw [e, List.getD_eq_getElem?_getD, List.getElem?_map, Array.getElem?_toList, hc]
      rfl
    · have e : (x.cps.toList.map fun c => (⟨#[c]⟩ : Str)).length = x.cps.size := by simp
      rw [e]
      exact hW A' hA
theorem src_list {h : Heap} {l : Addr} {items : Array Value} {xs : List Str} (hl : h.IsList l items) (hx : StrsAre items.toList xs) : Src prog w h (.ref l) xs where
  any := fun {A E s Q} up q => by
    have T : s.TypeIs (.ref l) "list" := by
      obtain ⟨o, ho, hc, _⟩ := hl
      exact ⟨o, up _ _ ho, hc⟩
    unfold Builtin.Frozenset.isAnySet
    exact wpAny_bind (wpAny_isInstance T PySem.F.sub_list_set (show wpAny _ _ (isInstance (.ref l) (.type "frozenset")) _ _ _ from wpAny_isInstance T PySem.F.sub_list_frozenset q))
  ty := fun {A E s Q} up q => by
    have T : s.TypeIs (.ref l) "list" := by
      obtain ⟨o, ho, hc, _⟩ := hl
      exact ⟨o, up _ _ ho, hc⟩
    exact wpAny_typeOf T (q _ (by decide))
  it := fun {A E s Q} up q => by
    have hl2 : s.heap.IsList l items := hl.at fun o e => up _ _ e
    have hlt : l < h.objs.size := by
      obtain ⟨o, ho, _⟩ := hl
      exact Heap.lt_size ho
    have hlt2 : l < s.heap.objs.size := by
      obtain ⟨o, ho, _⟩ := hl2
      exact Heap.lt_size ho
    refine wpAny_pyIter_list hl2 (q _ [s.heap.objs.size, l] (fun i v => items[i]? = some v) (fun i h => h.IsListIter s.heap.objs.size l i ∧ h.IsList l items) (fun b hb => ?_) (fun i v hv => ?_) (fun A' hA => ?_) ?_)
    · simp only [List.mem_cons, List.not_mem_nil, or_false] at hb
      rcases hb with rfl | rfl
      · exact .inl rfl
      · exact .inr hlt
    · exact SS.strs_at hx i v (by rw [Array.getElem?_toList]; exact hv)
    · have e : xs.length = items.size := by rw [← StrsAre.len_eq hx, Array.length_toList]
      rw [e]
      exact Walks.list hA _ l (Nat.ne_of_lt hlt2) items
    · exact ⟨⟨_, Heap.get?_push_size _ rfl, rfl, rfl⟩, hl2.push _⟩
end
def rSetN (K : PySem.W.Frag) (x : V) (H : Hp) (Q : VK) : Prop := (∃ l : List Nat, x = vS l ∧ l.length < 4000 ∧ Q (.int (ndc l.reverse : Nat)) H) ∨ (∃ (a : Addr) (ls : List (List Nat)), x = .ref a ∧ SqL K H a (ls.map vS) ∧ ls.length < 4000 ∧ Q (.int (ndc ls.reverse : Nat)) H)
def tLenSetS (K : PySem.W.Frag) (ta : TE) : TE := fun σ H Q => ta σ H fun x H1 => rSetN K x H1 Q
theorem ndc_map {α β : Type} [DecidableEq α] [DecidableEq β] (f : α → β) (hf : ∀ x y, f x = f y → x = y) : ∀ l : List α, ndc (l.map f) = ndc l
  | [] => rfl
  | x :: r => by
    rw [List.map_cons, ndc, ndc, ndc_map f hf r]
    have : f x ∈ r.map f ↔ x ∈ r := ⟨fun h => by
      obtain ⟨y, hy, e⟩ := List.mem_map.mp h
      rw [← hf _ _ e]; exact hy, fun h => List.mem_map_of_mem h⟩
    by_cases h : x ∈ r
    · rw [if_pos h, if_pos (this.mpr h)]
    · rw [if_neg h, if_neg fun z => h (this.mp z)]
theorem pe_lenSetS {X : Cx} {a : Expr} {ta : TE} {p p2 q pos : Pos} (hc : X.calm = true) (hg : Gl X "len") (hm : X.mg "len" = none) (hg2 : Gl X "set") (hm2 : X.mg "set" = none) (ha : PE X a ta)
    (na : starEach [a] X.env = (false, eval a X.env) :: starEach [] X.env := by rfl) : PE X (.Call (.Name "len" p) [.Call (.Name "set" p2) [a] [] q] [] pos) (tLenSetS X.K ta) := by
  refine ⟨fun pins s σ H Q I h => Call_ (ld_blt I hg hm boot_len ?_)⟩
  refine PyProof.Rows.callWith_builtin1 (PyProof.Rows.args_cons (Call_ (ld_blt I hg2 hm2 boot_set ?_)) rfl) rfl rfl
  refine PyProof.Rows.callWith_type1 (PyProof.Rows.args_cons (thn (ha.run pins s σ H _ I h) fun v s1 ⟨x, H1, I1, r1, q1⟩ => PyProof.Rows.args_nil ?_) na) na rfl
  have fin : ∀ (n : Nat) (xs : List Str), n < 4000 → ndc xs.reverse = n → Q (.int n) H1 → ∀ (h' : Heap) (tk : Nat), h'.SetOf (PySem.strKind X.prog X.w) s1.heap.objs.size (fun z => decide (z ∈ xs)) (ndc xs.reverse) → (∀ b o, s1.heap.get? b = some o → h'.get? b = some o) →
      wpAny (model X.prog X.w) X.A (spliced (backTo pos (starEach [] X.env))) (fun vs s₂ => wpAny (model X.prog X.w) X.A (call (.builtin "len") (Value.ref s1.heap.objs.size :: vs)) (EP X pins σ Q) X.xe s₂) X.xe { s1 with heap := h', toks := tk } := fun n xs hn en qn h' tk hS hk => by
    refine PyProof.Rows.args_nil ?_
    rw [en] at hS
    obtain ⟨o, es, ep, t, ho, hex, hd, _, _, _, hf, hz⟩ := hS
    have I2 : Inv X pins σ H1 { s1 with heap := h', toks := tk } := I1.kept hk
    exact call_len_set ho hex hd hf (by rw [hz]; omega) ⟨.int n, H1, I2.tok _, ⟨_, by rw [hz]⟩, qn⟩
  rcases q1 with ⟨l, rfl, hl, qq⟩ | ⟨b, ls, rfl, hq, hl, qq⟩
  · obtain ⟨u, rfl⟩ := r1
    have e1 : (S l).cps.toList = l := S_cps l
    have e2 : ndc ((S l).cps.toList.map fun c => (⟨#[c]⟩ : Str)).reverse = ndc l.reverse := by
      rw [e1, ← List.map_reverse]
      exact ndc_map _ (fun x y e => by simpa using e) _
    have hle := ndc_le l.reverse
    rw [List.length_reverse] at hle
    refine call_setS (I1.ok.hd hc) (src_str (S l) u) (by rw [e1, List.length_map]; exact hl) (fin (ndc l.reverse) _ (by omega) e2 qq)
  · obtain rfl : v = Value.ref b := r1
    obtain ⟨its, rv, pl, hz⟩ := I1.list hq
    have hst : StrsAre its (ls.map S) := strsAre_of (by rw [List.map_map]; exact rv)
    have e2 : ndc (ls.map S).reverse = ndc ls.reverse := by
      rw [← List.map_reverse]
      exact ndc_map _ (fun x y e => S_inj e) _
    have hle := ndc_le ls.reverse
    rw [List.length_reverse] at hle
    exact call_setS (I1.ok.hd hc) (src_list pl.isList (by simpa using hst)) (by rw [List.length_map]; exact hl) (fin (ndc ls.reverse) _ (by omega) e2 qq)
end WB
namespace WB
open PySem PySem.Spec PyProof.Rows L2
theorem eqV_S {a b : List Nat} : eqV (vS a) (vS b) = decide (a = b) := by
  show (S a == S b) = decide (a = b)
  rw [Bool.eq_iff_iff, beq_iff_eq, decide_eq_true_iff]
  exact ⟨S_inj, fun e => by rw [e]⟩
theorem inV_S {x : List Nat} {ls : List (List Nat)} : inV (vS x) (ls.map vS) = decide (x ∈ ls) := by
  unfold inV
  rw [List.any_map, Bool.eq_iff_iff, List.any_eq_true, decide_eq_true_iff]
  constructor
  · rintro ⟨y, hy, e⟩
    have e : eqV (vS y) (vS x) = true := e
    rw [eqV_S] at e
    rw [← of_decide_eq_true e]; exact hy
  · intro h
    exact ⟨x, h, by show eqV (vS x) (vS x) = true; rw [eqV_S]; simp⟩
theorem flat_S : ∀ ls : List (List Nat), (ls.map vS).all flatV = true
  | [] => rfl
  | x :: r => by rw [List.map_cons, List.all_cons, flat_S r]; rfl
section
variable {K : PySem.W.Frag} {H : Hp} {Q : VK} {E : XK}
theorem s_notInL {a : Addr} {x : List Nat} {ls : List (List Nat)} (h : SqL K H a (ls.map vS)) (k : Q (.bl (!decide (x ∈ ls))) H) : rIn K true (vS x) (.ref a) H Q := ⟨a, _, rfl, .inl h, rfl, flat_S ls, by rw [inV_S]; exact k⟩
theorem s_inL {a : Addr} {x : List Nat} {ls : List (List Nat)} (h : SqL K H a (ls.map vS)) (k : Q (.bl (decide (x ∈ ls))) H) : rIn K false (vS x) (.ref a) H Q := ⟨a, _, rfl, .inl h, rfl, flat_S ls, by rw [inV_S]; exact k⟩
theorem s_notInT {a : Addr} {x : List Nat} {ls : List (List Nat)} (h : SqT K H a (ls.map vS)) (k : Q (.bl (!decide (x ∈ ls))) H) : rIn K true (vS x) (.ref a) H Q := ⟨a, _, rfl, .inr h, rfl, flat_S ls, by rw [inV_S]; exact k⟩
theorem s_inT {a : Addr} {x : List Nat} {ls : List (List Nat)} (h : SqT K H a (ls.map vS)) (k : Q (.bl (decide (x ∈ ls))) H) : rIn K false (vS x) (.ref a) H Q := ⟨a, _, rfl, .inr h, rfl, flat_S ls, by rw [inV_S]; exact k⟩
theorem s_lenSet {ta : TE} {σ : St} (k : ta σ H fun x H1 => rSetN K x H1 Q) : tLenSetS K ta σ H Q := k
theorem s_setNS {l : List Nat} (hl : l.length < 4000) (k : Q (.int (ndc l.reverse : Nat)) H) : rSetN K (vS l) H Q := .inl ⟨l, rfl, hl, k⟩
end
end WB
namespace WB
open PySem PySem.Spec PyProof.Rows L2
def srt (ls : List (List Nat)) : List (List Nat) := ls.mergeSort fun a b => decide (a ≤ b)
theorem srt_perm (ls : List (List Nat)) : (srt ls).Perm ls := List.mergeSort_perm _ _
theorem srt_pair (ls : List (List Nat)) : (srt ls).Pairwise (· ≤ ·) := by
  have h := List.pairwise_mergeSort (le := fun a b : List Nat => decide (a ≤ b)) (fun a b c h1 h2 => decide_eq_true (List.le_trans (of_decide_eq_true h1) (of_decide_eq_true h2))) (fun a b => by
    rcases List.le_total a b with h | h
    · simp [h]
    · simp [h]) ls
  exact h.imp fun h => of_decide_eq_true h
theorem srt_unique {ys ls : List (List Nat)} (p : ys.Perm ls) (h : ys.Pairwise (· ≤ ·)) : ys = srt ls :=
  (p.trans (srt_perm ls).symm).eq_of_pairwise (fun a b _ _ h1 h2 => List.le_antisymm h1 h2) h (srt_pair ls)
theorem srt_len (ls : List (List Nat)) : (srt ls).length = ls.length := (srt_perm ls).length_eq
theorem srt_of_perm {ls ms : List (List Nat)} (p : ls.Perm ms) : srt ls = srt ms := srt_unique ((srt_perm ls).trans p) (srt_pair ls)
theorem srt_id {ls : List (List Nat)} (h : ls.Pairwise (· ≤ ·)) : srt ls = ls := (srt_unique (List.Perm.refl ls) h).symm
theorem rising_pair : ∀ (r : List (List Nat)) (x : List Nat), risingS (S x) (r.map S) = true → (x :: r).Pairwise (· ≤ ·)
  | [], x, _ => by simp
  | y :: r, x, h => by
    rw [List.map_cons, risingS, Bool.and_eq_true, S_cps, S_cps, ltCps_eq] at h
    have h1 : x ≤ y := by
      have : ¬ y < x := by simpa using h.1
      exact List.not_lt.mp this
    have h2 := rising_pair r y h.2
    refine List.pairwise_cons.mpr ⟨fun z hz => ?_, h2⟩
    rcases List.mem_cons.mp hz with rfl | hz
    · exact h1
    · exact List.le_trans h1 ((List.pairwise_cons.mp h2).1 z hz)
theorem sortedS_pair {ls : List (List Nat)} (h : sortedS (ls.map S) = true) : ls.Pairwise (· ≤ ·) := by
  cases ls with
  | nil => simp
  | cons x r => exact rising_pair r x h
theorem perm_S {ys : List Str} {ls : List (List Nat)} (p : ys.Perm (ls.map S)) : ∃ ms : List (List Nat), ys = ms.map S ∧ ms.Perm ls := by
  refine ⟨ys.map fun z => z.cps.toList, ?_, ?_⟩
  · rw [List.map_map]
    conv => lhs; rw [← List.map_id ys]
    exact List.map_congr_left fun z _ => S_of z
  · have h := p.map fun z : Str => z.cps.toList
    rw [List.map_map] at h
    have e : ls.map ((fun z : Str => z.cps.toList) ∘ S) = ls := by
      conv => rhs; rw [← List.map_id ls]
      exact List.map_congr_left fun z _ => S_cps z
    rw [e] at h
    exact h
theorem srt_S {ys : List Str} {ls : List (List Nat)} (p : ys.Perm (ls.map S)) (h : sortedS ys = true) : ys.map V.str = (srt ls).map vS := by
  obtain ⟨ms, rfl, pm⟩ := perm_S p
  rw [srt_unique pm (sortedS_pair h), List.map_map]
  rfl
def SrcV (K : PySem.W.Frag) (H : Hp) (x : V) (ls : List (List Nat)) : Prop := (∃ l : List Nat, x = vS l ∧ ls = l.map fun c => [c]) ∨ (∃ a, x = .ref a ∧ (SqL K H a (ls.map vS) ∨ SqT K H a (ls.map vS)))
def rSrt (K : PySem.W.Frag) : List V → Hp → VK → Prop := fun xs H Q => ∃ (x : V) (ls : List (List Nat)), xs = [x] ∧ SrcV K H x ls ∧ ls.length < 64 ∧ ∀ p, H p = none → Q (.ref p) (upd H p (.lst ((srt ls).map vS)))
section
variable {X : Cx}
theorem collect_src {pins : List (Addr × Obj)} {σ : L2.St} {H : Hp} {s : Shared} {A : Around} {E : Value → Shared → Prop} {x : V} {v : Value} {ls : List (List Nat)} {R : List Value → Shared → Prop} (I : Inv X pins σ H s) (hh : A.handled = none) (rx : RelV x v) (hs : SrcV X.K H x ls) (h64 : ls.length < 64)
    (h : ∀ (h' : Heap) (tk : Nat) (its : List Value), (∀ b o, s.heap.get? b = some o → h'.get? b = some o) → StrsAre its (ls.map S) → R its { s with heap := h', toks := tk }) : wpAny (model X.prog X.w) A (collect v) R E s := by
  rcases hs with ⟨l, rfl, rfl⟩ | ⟨a, rfl, hq | hq⟩
  · obtain ⟨t, rfl⟩ := rx
    have hz : (S l).cps.size = l.length := by simp [S]
    rw [List.length_map] at h64
    refine wpAny_collect_str hh (S l) t (fun s' acc k g d os hi => ?_) (by rw [hz, sizeLine_eq]; omega)
    obtain ⟨h', g', d', t', o'⟩ := s'
    cases g
    cases d
    cases os
    refine h h' t' acc.toList k (L2.strs_at (by rw [Array.length_toList, hi.1, List.length_map, List.length_map, hz]) fun j v e => ?_)
    obtain ⟨c, u, hc, ev⟩ := hi.2 j v (by rw [← Array.getElem?_toList]; exact e)
    have hc : l[j]? = some c := by simpa [S] using hc
    exact ⟨S [c], u, by rw [List.getElem?_map, List.getElem?_map, hc]; rfl, ev⟩
  · obtain rfl : v = Value.ref a := rx
    obtain ⟨its, rv, pl, hz⟩ := I.list hq
    obtain ⟨o, ho, hc, n, hd⟩ := pl.isList
    have hst : StrsAre its (ls.map S) := strsAre_of (by rw [List.map_map]; exact rv)
    have e : its.toArray.size = ls.length := by rw [List.size_toArray, ← rv.length, List.length_map]
    exact wpAny_collect_seq a (.inl rfl) ho hc hd (fun h' k => h h' s.toks _ k (by simpa using hst)) (by rw [e, sizeLine_eq]; omega)
  · obtain rfl : v = Value.ref a := rx
    obtain ⟨its, rv, ⟨o, ho, hc, n, hd⟩, hz⟩ := I.tuple hq
    have hst : StrsAre its (ls.map S) := strsAre_of (by rw [List.map_map]; exact rv)
    have e : its.toArray.size = ls.length := by rw [List.size_toArray, ← rv.length, List.length_map]
    exact wpAny_collect_seq a (.inr rfl) ho hc hd (fun h' k => h h' s.toks _ k (by simpa using hst)) (by rw [e, sizeLine_eq]; omega)
theorem cr_srt (hcalm : X.calm = true) : CallR X (.builtin "sorted") (rSrt X.K) := by
  intro pins s σ H xs us Q I r q
  obtain ⟨x, ls, rfl, hs, h64, q⟩ := q
  obtain ⟨u, rfl, rx⟩ := vals1 r
  refine Calls.call_function_entry PyProof.Rows.kind_sorted PyProof.Rows.plain_sorted PyProof.Rows.entry_sorted (PyProof.Rows.args_sorted1 _) ?_
  unfold Builtin.«sorted»
  refine wpAny_bind (m := checkCount "sorted" 1 1 _) (wpAny_pure (wpAny_bind (collect_src (A := X.A.in1) I (I.ok.hd hcalm) rx hs h64 fun h' tk its hk hS => ?_)))
  have hal : its.length = ls.length := by rw [StrsAre.len_eq hS, List.length_map]
  have I1 : Inv X pins σ H { s with heap := h', toks := tk } := I.kept hk
  refine wpAny_bind (wpAny_newList ?_ (by rw [hal, sizeLine_eq]; omega))
  have hoL : (h'.push (seqObj "list" its.toArray 0)).get? h'.objs.size = some (seqObj "list" its.toArray 0) := Heap.get?_push_size _ rfl
  show wpAny _ _ _ _ _ { s with heap := h'.push (seqObj "list" its.toArray 0), toks := tk }
  refine wpAny_bind (wpAny_holding (wpAny_call_entry PyProof.Rows.slot_list_sort ⟨_, hoL, rfl⟩ PyProof.Rows.entry_list_sort (list_sort_treeK strKind_oneLt (s := { s with heap := h'.push (seqObj "list" its.toArray 0), toks := tk }) hoL hS.keysOf (fun v₁ v₂ rest e => keyKind_strs (by rw [← e]; exact hS)) (by rw [hal]; exact h64)
    fun st' hp hs => ⟨_, rfl, ?_⟩) (PyProof.Rows.args_list_sort _)))
  obtain ⟨ys, g1, g2, g3⟩ := sorted_out_str hS hp hs
  obtain ⟨e', he'⟩ := PyProof.Rows.sortedHeap_at (vs := its) (out := (arrOf st').map (·.2)) hoL
  have ey := srt_S g2 g3
  have hlen : (ys.map V.str).length ≤ sizeLine := by
    rw [ey, List.length_map, srt_len]
    exact Nat.le_trans (Nat.le_of_lt h64) (by decide)
  have q1 := q _ (I1.hok.fresh (Nat.le_refl h'.objs.size))
  rw [← ey] at q1
  refine wpAny_pure ⟨_, rfl, .ref h'.objs.size, upd H h'.objs.size (.lst (ys.map V.str)), I1.laid (t' := tk) (fun b o e => ?_) (Nat.le_refl _) (show ObjOk X.prog X.w _ _ _ (.lst (ys.map V.str)) from ⟨hlen, ((arrOf st').map (·.2)).toList, e', vals_of_strs g1, by rw [Array.toArray_toList]; exact he'⟩), rfl, q1⟩
  have hb : b < h'.objs.size := Heap.lt_size e
  rw [PyProof.Rows.sortedHeap_old (Nat.ne_of_lt hb) (by rw [size_push']; exact Nat.lt_succ_of_lt hb)]
  exact Heap.get?_push_of_some _ e
end
section
variable {K : PySem.W.Frag} {H : Hp} {Q : VK}
theorem s_srtS {l : List Nat} (h : l.length < 64) (k : ∀ p H2, H p = none → Ex [] H H2 → H2 p = some (.lst ((srt (l.map fun c => [c])).map vS)) → Q (.ref p) H2) : rSrt K [vS l] H Q := ⟨_, _, rfl, .inl ⟨l, rfl, rfl⟩, by rw [List.length_map]; exact h, s_new k⟩
theorem s_srtL {a : Addr} {ls : List (List Nat)} (hs : SqL K H a (ls.map vS)) (h : ls.length < 64) (k : ∀ p H2, H p = none → Ex [] H H2 → H2 p = some (.lst ((srt ls).map vS)) → Q (.ref p) H2) : rSrt K [.ref a] H Q := ⟨_, _, rfl, .inr ⟨a, rfl, .inl hs⟩, h, s_new k⟩
theorem s_srtT {a : Addr} {ls : List (List Nat)} (hs : SqT K H a (ls.map vS)) (h : ls.length < 64) (k : ∀ p H2, H p = none → Ex [] H H2 → H2 p = some (.lst ((srt ls).map vS)) → Q (.ref p) H2) : rSrt K [.ref a] H Q := ⟨_, _, rfl, .inr ⟨a, rfl, .inr hs⟩, h, s_new k⟩
end
end WB
namespace WB
open PySem PySem.Spec PyProof.Rows L2
def sgn (s : List Nat) : List Nat := (srt (s.map fun c => [c])).flatten
def prs (s : List Nat) : List (List Nat) := s.flatMap fun a => s.map fun b => [a, b]
def goodS (s : List Nat) : Prop := isWord s LET = true ∧ s.length ≤ 4 ∧ s.Nodup
def goodP (s : List Nat) (ps : List (List Nat)) : Prop := ps.Nodup ∧ ∀ p ∈ ps, p.length = 2 ∧ ∀ c ∈ p, c ∈ s
def prevC (w : List Nat) (i : Nat) : Nat := w.getD ((i + (w.length - 1)) % w.length) 0
def closesB (w : List Nat) (ps : List (List Nat)) : Bool := (List.range w.length).all fun i => decide ([prevC w i, w.getD i 0] ∈ ps)
theorem closes_iff {w : List Nat} {ps : List (List Nat)} : closesB w ps = true ↔ ∀ i, i < w.length → [prevC w i, w.getD i 0] ∈ ps := by
  unfold closesB
  rw [List.all_eq_true]
  constructor
  · intro h i hi
    exact of_decide_eq_true (h i (List.mem_range.mpr hi))
  · intro h i hi
    exact decide_eq_true (h i (List.mem_range.mp hi))
theorem closes_rot {w : List Nat} {ps : List (List Nat)} {j : Nat} (hj : j < w.length) : closesB (rot w j) ps = true ↔ closesB w ps = true := by
  rw [closes_iff, closes_iff, rot_len]
  have hp : 0 < w.length := by omega
  have g : ∀ i, i < w.length → (rot w j).getD i 0 = w.getD ((j + i) % w.length) 0 := fun i hi => by
    rw [List.getD_eq_getElem?_getD, List.getD_eq_getElem?_getD, rot_get hj hi]
  have q : ∀ i, i < w.length → prevC (rot w j) i = prevC w ((j + i) % w.length) := fun i hi => by
    unfold prevC
    rw [rot_len, g _ (Nat.mod_lt _ hp)]
    congr 1
    rw [Nat.add_mod_mod, Nat.mod_add_mod]
    congr 1
    omega
  constructor
  · intro h i hi
    have := h ((i + (w.length - j)) % w.length) (Nat.mod_lt _ hp)
    rw [g _ (Nat.mod_lt _ hp), q _ (Nat.mod_lt _ hp)] at this
    have e : (j + (i + (w.length - j)) % w.length) % w.length = i := by
      rw [Nat.add_mod_mod, show j + (i + (w.length - j)) = i + w.length by omega, Nat.add_mod_right, Nat.mod_eq_of_lt hi]
    rw [e] at this
    exact this
  · intro h i hi
    rw [g i hi, q i hi]
    exact h _ (Nat.mod_lt _ hp)
theorem closes_least {w : List Nat} {ps : List (List Nat)} (hw : w ≠ []) : closesB (leastT w) ps = closesB w ps := by
  obtain ⟨j, hj, e⟩ := leastT_rot hw
  rw [e, Bool.eq_iff_iff, closes_rot hj]
theorem prs_len (s : List Nat) : (prs s).length = s.length * s.length := by
  unfold prs
  rw [List.length_flatMap]
  simp only [List.length_map]
  have : ∀ (l : List Nat) (n : Nat), (l.map fun _ => n).sum = l.length * n := by
    intro l n
    induction l with
    | nil => simp
    | cons x r ih => rw [List.map_cons, List.sum_cons, ih, List.length_cons, Nat.succ_mul, Nat.add_comm]
  exact this s _
structure KindK (K : PySem.W.Frag) : Prop where
  cl : Cls K (He.ga K "Kind")
  na1 : NoAttr K (He.ga K "Kind") "letters"
  na2 : NoAttr K (He.ga K "Kind") "allowed"
  ty : ∀ (H : Hp) (a dx : Addr) (fs : List (Str × V)), H a = some (.ins (He.ga K "Kind") dx fs) → TyX K H (.ref a) (.ref (He.ga K "Kind"))
  me : PySem.W.kitOne K (.ref (He.ga K "Kind")) (.ref (He.ga K "Kind")) = some true
  no : ∀ n ∈ KD, PySem.W.kitOne K (.type n) (.ref (He.ga K "Kind")) = some false
  nr : PySem.W.kitOne K (.ref (He.ga K "Kind")) (.ref (He.ga K "Ring")) = some false
  rn : PySem.W.kitOne K (.ref (He.ga K "Ring")) (.ref (He.ga K "Kind")) = some false
def KindAt (K : PySem.W.Frag) (H : Hp) (a : Addr) (l : List Nat) (ps : List (List Nat)) : Prop := ∃ dx t, H a = some (.ins (He.ga K "Kind") dx [("letters", vS l), ("allowed", .ref t)]) ∧ SqT K H t (ps.map vS)
section
variable {K : PySem.W.Frag} {H H' : Hp} {a p : Addr} {l : List Nat} {ps : List (List Nat)} {Q : VK} {E : XK}
theorem KindAt.ex0 (e : Ex [] H H') (h : KindAt K H a l ps) : KindAt K H' a l ps := by
  obtain ⟨dx, t, h1, h2⟩ := h
  exact ⟨dx, t, e a _ (by simp) h1, e.sqT (by simp) h2⟩
theorem sqT_pool {t : Addr} {xs : List V} (hp : PoolAt H p) (e : Ex [p] H H') (h : SqT K H t xs) : SqT K H' t xs := by
  obtain ⟨x, y, z, hp⟩ := hp
  rcases h with (h | ⟨o, h⟩) | h
  · exact e.sqT (by simp only [List.mem_singleton]; intro w; rw [w, hp] at h; cases h) (.inl (.inl h))
  · exact e.sqT (by simp only [List.mem_singleton]; intro w; rw [w, hp] at h; cases h) (.inl (.inr ⟨o, h⟩))
  · exact .inr h
theorem KindAt.exP (hp : PoolAt H p) (e : Ex [p] H H') (h : KindAt K H a l ps) : KindAt K H' a l ps := by
  obtain ⟨dx, t, h1, h2⟩ := h
  refine ⟨dx, t, e a _ ?_ h1, sqT_pool hp e h2⟩
  obtain ⟨x, y, z, hp⟩ := hp
  simp only [List.mem_singleton]
  intro w
  rw [w, hp] at h1
  cases h1
def sp_check_signs (K : PySem.W.Frag) : Sp := fun vs H Q _ => ∃ s : List Nat, vs = [vS s] ∧ goodS s ∧ ∀ H', Ex [] H H' → Q .non H'
def sp_check_pairs (K : PySem.W.Frag) : Sp := fun vs H Q _ => ∃ (s : List Nat) (t : Addr) (ps : List (List Nat)), vs = [vS s, .ref t] ∧ SqT K H t (ps.map vS) ∧ goodP s ps ∧ ps.length < 64 ∧ ∀ H', Ex [] H H' → Q .non H'
def PairsV (K : PySem.W.Frag) (H : Hp) (v : V) (s : List Nat) (ps : List (List Nat)) : Prop := (v = .non ∧ ps = prs s) ∨ ∃ t, v = .ref t ∧ SqT K H t (ps.map vS) ∧ goodP s ps ∧ ps.length < 64
def sp_Kind_init (K : PySem.W.Frag) : Sp := fun vs H Q _ => ∃ (x dx : Addr) (s : List Nat) (v : V), vs = [.ref x, vS s, v] ∧ goodS s ∧ H x = some (.ins (He.ga K "Kind") dx []) ∧ ∃ ps, PairsV K H v s ps ∧ ∀ H', Ex [x] H H' → KindAt K H' x (sgn s) (srt ps) → Q .non H'
def sp_Kind_closes (K : PySem.W.Frag) : Sp := fun vs H Q _ => ∃ (a : Addr) (w : List Nat), vs = [.ref a, vS w] ∧ ∃ l ps, KindAt K H a l ps ∧ w.length ≤ 600 ∧ ∀ H', Ex [] H H' → Q (.bl (closesB w ps)) H'
def NoRingV (K : PySem.W.Frag) (H : Hp) (v : V) : Prop := (∃ n, Kd K H v n) ∨ ∃ a l ps, v = .ref a ∧ KindAt K H a l ps
def sp_Kind_contains (K : PySem.W.Frag) : Sp := fun vs H Q _ => ∃ (a : Addr) (v : V), vs = [.ref a, v] ∧ ∃ l ps, KindAt K H a l ps ∧ ((∃ b w, v = .ref b ∧ RingAt K H b w ∧ w.length ≤ 600 ∧ ∀ H', Ex [] H H' → Q (.bl (closesB w ps)) H') ∨ (NoRingV K H v ∧ Q (.bl false) H))
theorem u_check_signs {s : List Nat} (h : goodS s) (k : ∀ H', Ex [] H H' → Q .non H') : sp_check_signs K ([vS s] ++ []) H Q E := ⟨_, rfl, h, k⟩
theorem u_check_pairs {s : List Nat} {t : Addr} (ht : SqT K H t (ps.map vS)) (h : goodP s ps) (hl : ps.length < 64) (k : ∀ H', Ex [] H H' → Q .non H') : sp_check_pairs K ([vS s, .ref t] ++ []) H Q E := ⟨_, _, _, rfl, ht, h, hl, k⟩
theorem u_makeKind {s : List Nat} {v : V} {us dvs : List V} (eu : us ++ dvs = [vS s, v]) (hs : goodS s) (hp : PairsV K H v s ps) (k : ∀ x H', H x = none → Ex [] H H' → KindAt K H' x (sgn s) (srt ps) → Q (.ref x) H') : MakeG (He.ga K "Kind") (sp_Kind_init K) dvs E us H Q := by
  intro x dx hx hdx ne
  rw [eu]
  have e0 : Ex [] H (upd (upd H dx (.own x)) x (.ins (He.ga K "Kind") dx [])) := fun b o _ hb => by rw [upd_ne (ne_of_none hb hx), upd_ne (ne_of_none hb hdx)]; exact hb
  have hp2 : PairsV K (upd (upd H dx (.own x)) x (.ins (He.ga K "Kind") dx [])) v s ps := by
    rcases hp with h | ⟨t, h1, h2, h3⟩
    · exact .inl h
    · exact .inr ⟨t, h1, e0.sqT (by simp) h2, h3⟩
  refine ⟨x, dx, s, v, rfl, hs, upd_same, ps, hp2, fun H' e h => ⟨rfl, k x H' hx ?_ h⟩⟩
  intro b o _ hb
  exact e b o (by simpa using ne_of_none hb hx) (e0 b o (by simp) hb)
theorem u_inKindR {a b : Addr} {w : List Nat} {neg : Bool} (h : KindAt K H a l ps) (hr : RingAt K H b w) (hw : w.length ≤ 600) (k : ∀ H', Ex [] H H' → Q (.bl (if neg then !closesB w ps else closesB w ps)) H') : rInO (He.ga K "Kind") neg (sp_Kind_contains K) E (.ref b) (.ref a) H Q := by
  obtain ⟨dx, t, h1, h2⟩ := id h
  exact ⟨a, dx, _, rfl, h1, _, _, rfl, l, ps, h, .inl ⟨b, w, rfl, hr, hw, fun H' e => ⟨_, rfl, k H' e⟩⟩⟩
theorem u_methKind {m : Str} {sp : Sp} {dvs : List V} {tr : TA} {σ : St} (h : KindAt K H a l ps) (hm : (m == ("letters" : Str)) = false) (hm2 : (m == ("allowed" : Str)) = false) (k : tr σ H fun vs H2 => sp (.ref a :: (vs ++ dvs)) H2 Q E) : MethG (He.ga K "Kind") m sp dvs E tr σ (.ref a) H Q := by
  obtain ⟨dx, t, h, _⟩ := h
  refine ⟨a, dx, _, rfl, h, ?_, k⟩
  simp only [List.lookup, hm, hm2]
theorem u_fldAllowed (F : KindK K) (h : KindAt K H a l ps) (k : ∀ t, SqT K H t (ps.map vS) → Q (.ref t) H) : FldG K "allowed" (.ref a) H Q := by
  obtain ⟨dx, t, h, ht⟩ := h
  exact ⟨a, _, dx, _, _, rfl, h, F.cl, F.na2, rfl, k t ht⟩
theorem u_fldLetters (F : KindK K) (h : KindAt K H a l ps) (k : Q (vS l) H) : FldG K "letters" (.ref a) H Q := by
  obtain ⟨dx, t, h, ht⟩ := h
  exact ⟨a, _, dx, _, _, rfl, h, F.cl, F.na1, rfl, k⟩
theorem u_isiKR (F : KindK K) (h : KindAt K H a l ps) (k : Q (.bl false) H) : rIsi K [.ref a, .ref (He.ga K "Ring")] H Q := by
  obtain ⟨dx, t, h, _⟩ := h
  exact ⟨_, _, _, _, _, rfl, .own _, F.ty _ _ _ _ h, F.nr, k⟩
theorem u_isiNR (F : RingK K) {v : V} {n : String} (h : Kd K H v n) (k : Q (.bl false) H) : rIsi K [v, .ref (He.ga K "Ring")] H Q := ⟨_, _, _, _, _, rfl, .own _, h.1, F.no n h.2, k⟩
def rTupOf (K : PySem.W.Frag) : List V → Hp → VK → Prop := fun xs H Q => ∃ p ys, xs = [.ref p] ∧ ((SqL K H p ys ∧ ∀ l, H l = none → Q (.ref l) (upd H l (.tup ys))) ∨ (SqT K H p ys ∧ Q (.ref p) H))
theorem s_tupOf {b : Addr} {xs : List V} (h : SqL K H b xs) (k : ∀ q H2, H q = none → Ex [] H H2 → H2 q = some (.tup xs) → Q (.ref q) H2) : rTupOf K [.ref b] H Q := ⟨b, xs, rfl, .inl ⟨h, s_new k⟩⟩
theorem s_notN {v : V} (k : Q (.bl (!decide (v = .non))) H) : rNotN1 v .non H Q := ⟨rfl, k⟩
theorem s_isN {v : V} (k : Q (.bl (decide (v = .non))) H) : rIsN1 v .non H Q := ⟨rfl, k⟩
end
end WB
namespace WB
open PySem PySem.Spec PyProof.Rows L2
def Lc2W (J : It) (g : TG) (tt : TT) (wi1 : TI) (g1 : TG) (tt1 : TT) (te : TE) (vs vs1 : List Nat) (σ : St) (H1 : Hp) (Q : VK) : Prop := ∀ D, H1 D = none → ∃ W : Nat → Nat → Hp → Prop, (∃ m, W 0 m (upd H1 D (.lst []))) ∧ ∀ i m H, W i m H →
  (J.stop i H ∧ Q (.ref D) H) ∨ (J.go i H ∧ ∃ Nx : Hp → Prop, (∀ H', Nx H' → ∃ m', m' < m ∧ W (i + 1) m' H') ∧ ∀ x H', J.yld i H x H' → g x (wipe σ vs) H' fun σ2 H2 => wipe σ2 vs = wipe σ vs ∧ tt σ2 H2 fun b H3 =>
    if b = true then wi1 σ2 H3 fun J1 H4 => ∃ W1 : Nat → Nat → Hp → Prop, (∃ m, W1 0 m H4) ∧ ∀ j k H, W1 j k H →
      (J1.stop j H ∧ Nx H) ∨ (J1.go j H ∧ ∃ Nx1 : Hp → Prop, (∀ H', Nx1 H' → ∃ k', k' < k ∧ W1 (j + 1) k' H') ∧ ∀ x H', J1.yld j H x H' → g1 x (wipe σ2 vs1) H' fun σ3 H5 => wipe σ3 vs1 = wipe σ2 vs1 ∧ tt1 σ3 H5 fun b H6 =>
        if b = true then te σ3 H6 fun y H7 => ∃ acc, H7 D = some (.lst acc) ∧ acc.length < sizeLine ∧ Nx1 (upd H7 D (.lst (acc ++ [y]))) else Nx1 H6)
    else Nx H3)
theorem s_lc2 {wi wi1 : TI} {g g1 : TG} {tt tt1 : TT} {te : TE} {vs vs1 : List Nat} {σ : St} {H : Hp} {Q : VK} (k : wi σ H fun J H1 => Lc2W J g tt wi1 g1 tt1 te vs vs1 σ H1 Q) : tLc2 wi g tt wi1 g1 tt1 te vs vs1 σ H Q := k
def vals2 (val : Nat → Nat → V) (l m : List Nat) : List V := l.flatMap fun c => m.map fun d => val c d
theorem vals2_snoc {val : Nat → Nat → V} {l m : List Nat} {i c : Nat} (h : l[i]? = some c) : vals2 val (l.take (i + 1)) m = vals2 val (l.take i) m ++ m.map (val c) := by
  unfold vals2
  rw [List.take_add_one, h]
  simp
theorem vals2_len {val : Nat → Nat → V} {m : List Nat} : ∀ l : List Nat, (vals2 val l m).length = l.length * m.length
  | [] => by simp [vals2]
  | c :: l => by
    have := vals2_len (val := val) (m := m) l
    unfold vals2 at this ⊢
    rw [List.flatMap_cons, List.length_append, this, List.length_map, List.length_cons, Nat.succ_mul, Nat.add_comm]
theorem lc2_SS {l m : List Nat} {j1 j2 k : Nat} {te : TE} {σ : St} {H : Hp} {Q : VK} (ne : j1 ≠ j2) (hk : ∀ c, ((wipe σ [j1, j2]).set j1 (some (vS [c])))[k]? = some (some (vS m))) (hl : l.length ≤ 600) (hm : m.length ≤ 600) (val : Nat → Nat → V)
    (h : ∀ (c d : Nat) (H1 : Hp) (C : VK), c ∈ l → d ∈ m → Ex [] H H1 → (∀ H2, Ex [] H1 H2 → C (val c d) H2) → te ((wipe ((wipe σ [j1, j2]).set j1 (some (vS [c]))) [j2]).set j2 (some (vS [d]))) H1 C)
    (q : ∀ D H', H D = none → Ex [] H H' → H' D = some (.lst (vals2 val l m)) → Q (.ref D) H') : Lc2W (Its (S l)) (gName j1) tYes (iStr (tVar k)) (gName j2) tYes te [j1, j2] [j2] σ H Q := by
  intro D hD
  have hs : ∀ z : List Nat, (S z).cps.size = z.length := fun z => by simp [S]
  have w1 := walk_str (z := S l)
  have w2 := walk_str (z := S m)
  rw [hs] at w1 w2
  refine ⟨fun i r H' => r = l.length - i ∧ i ≤ l.length ∧ Ex [] H H' ∧ H' D = some (.lst (vals2 val (l.take i) m)), ⟨_, rfl, Nat.zero_le _, Ex.new hD, by rw [upd_same]; rfl⟩, ?_⟩
  rintro i r H1 ⟨rfl, hi, e1, h1⟩
  by_cases hlt : i < l.length
  rotate_left
  · have : i = l.length := by omega
    subst this
    rw [List.take_length] at h1
    exact .inl ⟨w1.stops _ trivial, q D H1 hD e1 h1⟩
  refine .inr ⟨w1.goes _ _ hlt trivial, fun H' => Ex [] H H' ∧ H' D = some (.lst (vals2 val (l.take (i + 1)) m)), fun H' hn => ⟨_, by omega, rfl, by omega, hn.1, hn.2⟩, fun x H2 hy => ?_⟩
  obtain ⟨rfl, c, hc, rfl⟩ := w1.yields _ _ _ _ hlt trivial hy
  have hc : l[i]? = some c := by simpa [S] using hc
  refine ⟨?_, ?_⟩
  · show (((((σ.set j2 none).set j1 none).set j1 (some (vS [c]))).set j2 none).set j1 none) = (σ.set j2 none).set j1 none
    rw [List.set_set, List.set_comm (l := σ.set j2 none) _ _ ne, List.set_set, List.set_set]
  refine s_yes (s_T rfl ?_)
  refine ⟨vS m, hk c, S m, rfl, ?_⟩
  refine ⟨fun j r H' => r = m.length - j ∧ j ≤ m.length ∧ Ex [] H H' ∧ H' D = some (.lst (vals2 val (l.take i) m ++ (m.take j).map (val c))), ⟨_, rfl, Nat.zero_le _, e1, by simpa using h1⟩, ?_⟩
  rintro j r H3 ⟨rfl, hj, e3, h3⟩
  by_cases hlt2 : j < m.length
  rotate_left
  · have : j = m.length := by omega
    subst this
    rw [List.take_length, ← vals2_snoc hc] at h3
    exact .inl ⟨w2.stops _ trivial, e3, h3⟩
  refine .inr ⟨w2.goes _ _ hlt2 trivial, fun H' => Ex [] H H' ∧ H' D = some (.lst (vals2 val (l.take i) m ++ (m.take (j + 1)).map (val c))), fun H' hn => ⟨_, by omega, rfl, by omega, hn.1, hn.2⟩, fun x H4 hy => ?_⟩
  obtain ⟨rfl, d, hd, rfl⟩ := w2.yields _ _ _ _ hlt2 trivial hy
  have hd : m[j]? = some d := by simpa [S] using hd
  refine ⟨wipe1 _ _ _, s_yes (s_T rfl ?_)⟩
  refine h c d _ _ (List.mem_of_getElem? hc) (List.mem_of_getElem? hd) e3 fun H5 e5 => ⟨_, e5 D _ (by simp) h3, ?_, ?_, ?_⟩
  · rw [List.length_append, vals2_len, List.length_map, List.length_take, List.length_take]
    have a1 : min i l.length * m.length ≤ 600 * 600 := Nat.mul_le_mul (by omega) hm
    exact Nat.lt_of_le_of_lt (show _ ≤ 361000 by omega) (by decide)
  · intro b o _ hb
    rw [upd_ne (ne_of_none hb hD)]
    exact e5 b o (by simp) (e3 b o (by simp) hb)
  · rw [upd_same, List.take_add_one, hd, List.map_append, ← List.append_assoc]
    rfl
section
variable {K : PySem.W.Frag} {H : Hp} {Q : VK} {E : XK}
theorem s_slA {a : Addr} {xs : List V} {lo hi : Option Int} (h : SqT K H a xs) (k : ∀ q H2, Ex [] H H2 → SqT K H2 q (cutV xs lo hi) → Q (.ref q) H2) : rSlA K (.ref a) lo hi H Q := by
  refine ⟨a, xs, rfl, h, fun hw => ?_, fun _ p hp => k p _ (Ex.new hp) (SqT.of upd_same)⟩
  have e : cutV xs lo hi = xs := by
    unfold cutV
    rw [hw.1, hw.2]
    simp
  have := k a H Ex.rfl
  rw [e] at this
  exact this h
theorem cutV_to {xs : List V} {n : Int} (h0 : 0 ≤ n) : cutV xs none (some n) = xs.take n.toNat := by
  unfold cutV
  have e : HT.sIx xs.length xs.length (some n) = min n.toNat xs.length := by
    show (if n < 0 then (n + (xs.length : Int)).toNat else min n.toNat xs.length) = _
    rw [if_neg (by omega)]
  have e2 : HT.sIx xs.length 0 none = 0 := rfl
  rw [e, e2]
  rcases Nat.le_total n.toNat xs.length with h | h
  · rw [Nat.min_eq_left h]; simp
  · rw [Nat.min_eq_right h, List.take_of_length_le h]; simp
theorem s_eqLInil {a b : Addr} {l : List Int} (h1 : SqL K H a (l.map V.int)) (h2 : SqL K H b []) (k : Q (.bl l.isEmpty) H) : rEqD K (.ref a) (.ref b) H Q := by
  refine ⟨_, _, .lst h1 (dp_all (fun i => .int i) l), .lst h2 .nil, shaped_ints l, by decide +kernel, ?_⟩
  rw [eqv_nil]
  cases l <;> exact k
theorem s_intB {c : Bool} (k : Q (.int (if c = true then 1 else 0)) H) : rIntI [.bl c] H Q := .inr ⟨c, rfl, k⟩
theorem u_is_wordF {l s : List Nat} (hl : l.length ≤ 10000) (k : ∀ H', Ex [] H H' → Q (.bl (isWord l s)) H') : sp_is_word K ([vS l, vS s] ++ []) H Q E := ⟨_, _, rfl, .inl ⟨l, rfl, hl, k⟩⟩
end
theorem flat_len1 {s : List Nat} : (srt (s.map fun c => [c])).flatten.length = s.length := by
  rw [(srt_perm (s.map fun c => [c])).flatten.length_eq, flat1]
theorem closes_filter {w : List Nat} {ps : List (List Nat)} : (((List.range w.length).filter fun i => !decide ([prevC w i, w.getD i 0] ∈ ps)).map fun (i : Nat) => (0 : Int) + i).isEmpty = closesB w ps := by
  rw [List.isEmpty_map, Bool.eq_iff_iff, List.isEmpty_iff, List.filter_eq_nil_iff, closes_iff]
  constructor
  · intro h i hi
    have := h i (List.mem_range.mpr hi)
    simpa using this
  · intro h i hi
    have := h i (List.mem_range.mp hi)
    simpa using this
theorem at_here {w : List Nat} {i : Nat} (h : i < w.length) : atI w ((0 : Int) + i) = some (w.getD i 0) := by
  refine atI_of (by omega) ?_
  rw [show ((0 : Int) + (i : Int)).toNat = i by omega, List.getElem?_eq_getElem h, List.getD_eq_getElem?_getD, List.getElem?_eq_getElem h]
  rfl
theorem at_prev {w : List Nat} {i : Nat} (h : i < w.length) : atI w ((0 : Int) + i - 1) = some (prevC w i) := by
  unfold prevC
  rcases Nat.eq_zero_or_pos i with rfl | hp
  · unfold atI ixN
    rw [if_neg (by omega), if_pos (by omega)]
    have e : (0 + (w.length - 1)) % w.length = w.length - 1 := by rw [Nat.zero_add, Nat.mod_eq_of_lt (by omega)]
    rw [e, List.getD_eq_getElem?_getD, List.getElem?_eq_getElem (by omega)]
    show w[((w.length : Int) + (0 + ((0 : Nat) : Int) - 1)).toNat]? = _
    rw [show ((w.length : Int) + (0 + ((0 : Nat) : Int) - 1)).toNat = w.length - 1 by omega, List.getElem?_eq_getElem (by omega)]
    rfl
  · have e : (i + (w.length - 1)) % w.length = i - 1 := by rw [show i + (w.length - 1) = i - 1 + w.length by omega, Nat.add_mod_right, Nat.mod_eq_of_lt (by omega)]
    rw [e]
    refine atI_of (by omega) ?_
    rw [show ((0 : Int) + (i : Int) - 1).toNat = i - 1 by omega, List.getElem?_eq_getElem (by omega), List.getD_eq_getElem?_getD, List.getElem?_eq_getElem (by omega)]
    rfl
end WB
namespace WB
open PySem PySem.Spec PyProof.Rows L2
local macro_rules | `(tactic| walk_at "lit") => `(tactic| first | exact lit_abc | exact lit_empty)
local macro_rules | `(tactic| walk_at "nm") => `(tactic| focus first | exact List.not_mem_nil | (simp only [List.mem_singleton]; first | assumption | (exact Ne.symm (by assumption)) | (intro hz; subst hz; simp_all; done)))
local macro_rules | `(tactic| walk_at "hp") => `(tactic| first | assumption | (apply Ex.get0 (by assumption); walk_at "hp") | (apply Ex.get (by assumption); (walk_at "nm"); (walk_at "hp")))
local macro_rules | `(tactic| walk_at "sq") => `(tactic| first | assumption | (apply SqL.of; walk_at "hp") | (apply Ex.sqL (by assumption); (walk_at "nm"); (walk_at "sq")))
local macro_rules | `(tactic| walk_at "sqt") => `(tactic| first | assumption | (apply SqT.of; walk_at "hp") | (apply Ex.sqT (by assumption); (walk_at "nm"); (walk_at "sqt")))
local macro_rules | `(tactic| walk_at "sz") => `(tactic| focus ((with_reducible refine Nat.le_trans (m := 100000) ?_ (by decide)); first | omega | (simp; done) | (simp; omega)))
local macro_rules | `(tactic| walk_at "mul") => `(tactic| first | exact Or.inr ⟨by omega, by omega⟩ | exact Or.inl ⟨by omega, by omega⟩)
local macro_rules | `(tactic| walk_at "pool") => `(tactic| first | assumption | (apply PoolAt.ex (by assumption); (walk_at "nm"); (walk_at "pool")))
local macro_rules | `(tactic| walk_at "ring") => `(tactic| first | assumption | (apply RingAt.ex (by assumption); (walk_at "nm"); (walk_at "ring")))
local macro_rules | `(tactic| walk_at "st") => `(tactic| first
  | with_reducible refine s_seq ?_
  | with_reducible refine s_asg ?_
  | with_reducible refine s_gName ?_
  | with_reducible refine s_ret ?_
  | with_reducible refine s_ifS ?_
  | with_reducible refine s_next ?_
  | with_reducible refine s_op ?_
  | ((with_reducible apply s_var); exact rfl)
  | ((with_reducible apply s_cS); (walk_at "lit"))
  | with_reducible refine s_c ?_
  | with_reducible refine s_cb ?_
  | with_reducible refine s_cons ?_
  | with_reducible refine s_nil ?_
  | with_reducible refine s_un ?_
  | with_reducible refine s_call ?_
  | with_reducible refine s_test ?_
  | with_reducible refine s_tB ?_
  | with_reducible refine s_blQ ?_
  | with_reducible refine s_not ?_
  | with_reducible refine s_and ?_
  | with_reducible refine s_or ?_
  | with_reducible refine s_andV ?_
  | with_reducible refine s_orV ?_
  | with_reducible refine s_notV ?_
  | with_reducible refine s_ifE ?_
  | with_reducible refine s_chain ?_
  | ((with_reducible refine s_T ?_ ?_); (with_reducible exact rfl))
  | with_reducible refine s_nT ?_
  | with_reducible refine s_nF ?_
  | ((with_reducible refine s_F ?_ ?_); (with_reducible exact rfl))
  | ((with_reducible refine s_T ?_ ?_); assumption)
  | ((with_reducible refine s_F ?_ ?_); assumption)
  | ((with_reducible refine s_nB ?_ ?_); assumption)
  | ((with_reducible refine s_nA ?_ ?_); assumption)
  | ((with_reducible refine s_Td ?_ ?_); omega)
  | ((with_reducible refine s_Fd ?_ ?_); omega)
  | ((with_reducible refine s_nTd ?_ ?_); omega)
  | ((with_reducible refine s_nFd ?_ ?_); omega)
  | with_reducible refine s_sfld ?_
  | with_reducible refine s_addI ?_
  | with_reducible refine s_subI ?_
  | ((with_reducible refine s_mulI ?_ ?_); (walk_at "mul"))
  | ((with_reducible refine s_divI ?_ ?_); exact ⟨by omega, by omega⟩)
  | ((with_reducible refine s_modI ?_ ?_); omega)
  | ((with_reducible refine s_powI ?_ ?_); exact ⟨by decide, by decide, by decide⟩)
  | with_reducible refine s_ltI ?_
  | with_reducible refine s_leI ?_
  | with_reducible refine s_gtI ?_
  | with_reducible refine s_geI ?_
  | with_reducible refine s_negI ?_
  | with_reducible refine s_absI ?_
  | with_reducible refine s_intI ?_
  | with_reducible refine s_min2 ?_
  | with_reducible refine s_max2 ?_
  | with_reducible refine s_eqI ?_
  | with_reducible refine s_neI ?_
  | with_reducible refine s_eqS ?_
  | with_reducible refine s_neS ?_
  | with_reducible refine s_inSg ?_
  | with_reducible refine s_notInSg ?_
  | ((with_reducible refine s_addS ?_ ?_); (walk_at "sz"))
  | ((with_reducible refine s_lenS ?_ ?_); (walk_at "sz"))
  | ((with_reducible apply s_lenL); (walk_at "sq"))
  | ((with_reducible apply s_lenT); (walk_at "sqt"))
  | ((with_reducible apply s_ixL); (walk_at "sq"); exact rfl)
  | ((with_reducible apply s_ixT); (walk_at "sqt"); exact rfl)
  | with_reducible refine s_gSub ?_
  | ((with_reducible apply s_setL); (walk_at "hp"); (exact rfl); (intro _ _ _))
  | ((with_reducible refine s_alloc ?_ ?_); (walk_at "sz"); (intro _ _ _ _ _))
  | ((with_reducible refine s_divmod ?_ ?_); (exact ⟨by omega, PyProof.noPylong_small (by omega)⟩); (intro _ _ _ _ _))
  | ((with_reducible apply s_gTup); (walk_at "sqt"); (exact rfl))
  | ((with_reducible apply s_gLst); (walk_at "sq"); (exact rfl))
  | with_reducible refine s_gCons ?_
  | with_reducible refine s_gNil ?_
  | with_reducible refine s_lc ?_
  | ((with_reducible apply s_cat); (walk_at "hp"); (walk_at "hp"); (walk_at "sz"); (intro _ _ _ _ _))
  | ((with_reducible apply s_slL); (walk_at "sq"); (intro _ _ _ _ _))
  | with_reducible refine s_for ?_
  | with_reducible refine s_rng1 ?_
  | ((with_reducible refine s_rng1i ?_ ?_); (constructor <;> omega))
  | with_reducible refine s_rng2 ?_
  | ((with_reducible refine s_rng2i ?_ ?_); (refine ⟨?_, ?_, ?_, ?_⟩ <;> omega))
  | with_reducible refine s_iStr ?_
  | with_reducible refine s_iStrS ?_
  | with_reducible refine s_iList ?_
  | ((with_reducible apply s_iListA); (walk_at "sq"))
  | with_reducible refine s_iTup ?_
  | ((with_reducible apply s_iTupA); (walk_at "sqt"))
  | with_reducible refine s_sl ?_
  | with_reducible refine s_noPart ?_
  | with_reducible refine s_part ?_
  | with_reducible refine s_int1 ?_
  | ((with_reducible refine s_slS ?_ ?_); (walk_at "sz"))
  | with_reducible refine s_tup ?_
  | with_reducible refine s_lst ?_
  | with_reducible refine s_par ?_
  | with_reducible refine s_pair ?_
  | with_reducible refine s_M1 ?_
  | with_reducible refine s_isStr ?_
  | with_reducible refine s_revS ?_
  | ((with_reducible refine s_revS1 ?_ ?_); (walk_at "sz"))
  | with_reducible refine s_fldE ?_
  | with_reducible refine s_propE ?_
  | ((with_reducible refine u_draw ?_ ?_ ?_ ?_); omega; omega; (walk_at "pool"); (intro _ _ _ _ _ _))
  | ((with_reducible refine u_pool ?_); (intro _ _ _ _ _))
  | with_reducible refine u_is_integer ?_
  | with_reducible refine s_isiII ?_
  | with_reducible refine s_isiIB ?_
  | with_reducible refine s_isiSS ?_
  | ((with_reducible apply u_fldRing); assumption; (walk_at "ring"))
  | ((with_reducible apply u_textP); (walk_at "ring"))
  | ((with_reducible apply u_strRing); (walk_at "ring"))
  | ((with_reducible apply u_eqRing); (walk_at "ring"); (walk_at "ring"))
  | ((with_reducible apply u_isiRing); assumption; (walk_at "ring"))
  | ((with_reducible refine u_is_word ?_ ?_); omega; (intro _ _))
  | ((with_reducible refine u_turnings ?_ ?_); omega; (intro _ _ _ _ _))
  | with_reducible refine s_makeE ?_
  | with_reducible refine s_methE ?_)
local macro_rules | `(tactic| walk_at "go") => `(tactic| repeat (walk_at "st"))
local macro_rules | `(tactic| walk_at "exs") => `(tactic| first | exact Ex.rfl | assumption | (apply Ex.snoc (by assumption); walk_at "exs") | (apply Ex.snocW (by assumption); walk_at "exs"))
local macro_rules | `(tactic| walk_at "kind") => `(tactic| first | assumption | (apply KindAt.ex0 (by assumption); (walk_at "kind")) | (apply KindAt.exP (by assumption) (by assumption); (walk_at "kind")))
local macro_rules | `(tactic| walk_at "st") => `(tactic| first
  | with_reducible refine s_lenSet ?_
  | with_reducible refine s_drop ?_
  | with_reducible refine s_bm ?_
  | with_reducible refine s_notN ?_
  | with_reducible refine s_isN ?_
  | ((with_reducible apply s_tyL); (walk_at "hp"))
  | with_reducible refine s_enumT ?_
  | ((with_reducible apply s_enumTA); (walk_at "sqt"))
  | with_reducible refine s_lc2 ?_)
def t_check_signs (K : PySem.W.Frag) : TS :=
  (tIfS (tOr (tNot (tB (tCall (sp_is_word K) [(vS LET)] E0 (tCons (tVar 0) tNil)))) (tOr (tTest (tOp rGtI (tCB (rLenV K) (tCons (tVar 0) tNil)) (tC (.int 4)))) (tTest (tOp rLtI (tLenSetS K (tVar 0)) (tCB (rLenV K) (tCons (tVar 0) tNil)))))) tNever tNext)
def t_check_pairs (K : PySem.W.Frag) : TS :=
  (tSeq (tIfS (tNot (tB (tCB (rIsi K) (tCons (tVar 1) (tCons (tC (.ty "tuple")) tNil))))) tNever tNext)
  (tFor (iEnumT K (tCons (tVar 1) tNil)) (gTup K 2 (gCons (gName 2) (gCons (gName 3) gNil))) (tIfS (tOr (tNot (tB (tCall (sp_is_word K) [] E0 (tCons (tVar 3) (tCons (tVar 0) tNil))))) (tOr (tTest (tOp rNe (tCB (rLenV K) (tCons (tVar 3) tNil)) (tC (.int 2)))) (tTest (tOp (rIn K false) (tVar 3) (tSl (rSlA K) (tVar 1) tNoPart (tPart (tVar 2))))))) tNever tNext)))
def t_Kind_init (K : PySem.W.Frag) : TS :=
  (tSeq (tDrop (tCall (sp_check_signs K) [] E0 (tCons (tVar 1) tNil)))
  (tSeq (tIfS (tTest (tOp rNotN1 (tVar 2) (tC .non))) (tDrop (tCall (sp_check_pairs K) [] E0 (tCons (tVar 1) (tCons (tVar 2) tNil)))) tNext)
  (tSeq (sFld K (tVar 0) (tM1 (rJoin K) (tC (.str "")) (tCB (rSrt K) (tCons (tVar 1) tNil))) "letters")
  (tSeq (tIfS (tTest (tOp rIsN1 (tVar 2) (tC .non))) (tAsg (tLc2 (iStr (tVar 1)) (gName 3) tYes (iStr (tVar 1)) (gName 4) tYes (tOp rAddS (tVar 3) (tVar 4)) [3, 4] [4]) (gName 2)) tNext)
  (sFld K (tVar 0) (tCB (rTupOf K) (tCons (tCB (rSrt K) (tCons (tVar 2) tNil)) tNil)) "allowed")))))
def t_Kind_closes (K : PySem.W.Frag) : TS :=
  (tRet (tOp (rEqD K) (tLc (iRng1 (tCons (tCB (rLenV K) (tCons (tVar 1) tNil)) tNil)) (gName 2) (tTest (tOp (rIn K true) (tOp rAddS (tOp rIxS (tVar 1) (tOp rSubI (tVar 2) (tC (.int 1)))) (tOp rIxS (tVar 1) (tVar 2))) (tFld K (tVar 0) "allowed"))) (tVar 2) [2]) (tLst tNil)))
def t_Kind_contains (K : PySem.W.Frag) : TS :=
  (tRet (tAndV (tCB (rIsi K) (tCons (tVar 1) (tCons (tC (.ref (He.ga K "Ring"))) tNil))) (tMeth (He.ga K "Kind") "closes" (sp_Kind_closes K) [] E0 (tVar 0) (tCons (tProp (He.ga K "Ring") (sp_Ring_text K) [] E0 (tVar 1)) tNil))))
section
variable {K : PySem.W.Frag} {vs : List V} {H : Hp} {Q : VK} {E : XK}
theorem pure_check_signs (h : sp_check_signs K vs H Q E) : t_check_signs K (E1 Q) (start ["signs"] vs) H := by
  obtain ⟨s, rfl, ⟨hw, h4, hn⟩, k⟩ := h
  have hl := isWord_len hw
  show t_check_signs K (E1 Q) [some (vS s)] H
  unfold t_check_signs
  walk_at "go"
  rename_i H1 e1
  refine s_setNS (by omega) ?_
  have en : ndc s.reverse = s.length := by rw [← List.length_reverse]; exact (ndc_full _).mpr ((List.reverse_perm s).nodup_iff.mpr hn)
  rw [en]
  walk_at "go"
  exact k _ e1
theorem pure_check_pairs (h : sp_check_pairs K vs H Q E) : t_check_pairs K (E1 Q) (start ["signs", "pairs", "index", "pair"] vs) H := by
  obtain ⟨s, t, ps, rfl, ht, ⟨hn, hg⟩, h64, k⟩ := h
  show t_check_pairs K (E1 Q) [some (vS s), some (.ref t), none, none] H
  unfold t_check_pairs
  walk_at "go"
  refine s_isiK (Kd.tup ht) (b := true) (by decide +kernel) ?_
  walk_at "go"
  refine for_run walk_enumT (fun i σ H1 => ∃ x2 x3, σ = [some (vS s), some (.ref t), x2, x3] ∧ Ex [] H H1) ⟨_, _, rfl, Ex.rfl⟩ (fun i σ H1 _ ⟨_, _, _, e⟩ => e.sqT (by simp) ht) ?_ ?_
  · rintro i x σ H1 H2 hi ⟨x2, x3, rfl, e1⟩ ⟨T, y, z, rfl, hT, rfl, hy, hz⟩
    rw [List.length_map] at hi
    have hz : (ps.map vS)[i]? = some z := hz
    rw [List.getElem?_map, List.getElem?_eq_getElem hi] at hz
    cases hz
    cases hy
    have hm : ps[i] ∈ ps := List.getElem_mem hi
    have hp := hg _ hm
    have e2 : Ex [] H1 (upd H1 T (.tup [.int (i : Nat), vS ps[i]])) := Ex.new hT
    have h2 : (upd H1 T (.tup [.int (i : Nat), vS ps[i]])) T = some (.tup [.int (i : Nat), vS ps[i]]) := upd_same
    revert e2 h2
    generalize upd H1 T (.tup [.int (i : Nat), vS ps[i]]) = H3
    intro e2 h2
    have hw : isWord ps[i] s = true := isWord_mk (by omega) (by omega) hp.2
    walk_at "go"
    refine u_is_wordF (by omega) fun H4 e4 => ?_
    rw [hw]
    walk_at "go"
    refine s_slA (xs := ps.map vS) (by walk_at "sqt") fun q H5 e5 hs5 => ?_
    walk_at "go"
    have hc : cutV (ps.map vS) none (some (i : Int)) = (ps.take i).map vS := by rw [cutV_to (by omega)]; simp [List.map_take]
    rw [hc] at hs5
    refine s_inT hs5 ?_
    have hni : ps[i] ∉ ps.take i := by
      intro z
      obtain ⟨j, hj, e⟩ := List.mem_take_iff_getElem.mp z
      exact absurd (List.getElem_inj hn |>.mp e) (by omega)
    rw [decide_eq_false hni]
    walk_at "go"
    exact ⟨_, _, rfl, (((e1.trans e2).trans e4).trans e5)⟩
  · rintro σ H1 ⟨x2, x3, rfl, e1⟩
    exact k _ e1
variable (FR : RingK K) (F : KindK K)
include F
theorem pure_Kind_init (h : sp_Kind_init K vs H Q E) : t_Kind_init K (E1 Q) (start ["self", "signs", "pairs", "one", "other"] vs) H := by
  obtain ⟨x, dx, s, v, rfl, hs, hx, ps, hp, k⟩ := h
  have h4 := hs.2.1
  show t_Kind_init K (E1 Q) [some (.ref x), some (vS s), some v, none, none] H
  unfold t_Kind_init
  walk_at "go"
  refine u_check_signs hs fun H1 e1 => ?_
  walk_at "go"
  have fin : ∀ (H5 : Hp) (q : Addr), Ex [x] H H5 → H5 x = some (.ins (He.ga K "Kind") dx [("letters", vS (sgn s))]) → H5 q = some (.tup ((srt ps).map vS)) → SetG K "allowed" (.ref q) (.ref x) H5 (fun H' => Q .non H') := by
    intro H5 q e5 h5 hq
    refine ⟨x, _, dx, _, rfl, h5, F.cl, F.na2, by simp, ?_⟩
    have hqx : q ≠ x := fun z => by rw [z, h5] at hq; cases hq
    refine k _ (e5.trans (Ex.put (by simp))) ⟨dx, q, ?_, SqT.of (by rw [upd_ne hqx]; exact hq)⟩
    rw [upd_same]
    rfl
  rcases hp with ⟨rfl, rfl⟩ | ⟨t, rfl, ht, hg, h64⟩
  · refine s_F (by simp) ?_
    walk_at "go"
    refine s_srtS (by omega) fun p2 H2 n2 e2 h2 => ?_
    walk_at "go"
    refine s_join0 (ls := srt (s.map fun c => [c])) (SqL.of h2) (by rw [flat_len1]; omega) ?_
    walk_at "go"
    refine ⟨x, _, dx, _, rfl, by walk_at "hp", F.cl, F.na1, by simp, ?_⟩
    have e3 : Ex [x] H2 (upd H2 x (.ins (He.ga K "Kind") dx (putF "letters" (vS (sgn s)) []))) := Ex.put (by simp)
    have h3 : (upd H2 x (.ins (He.ga K "Kind") dx (putF "letters" (vS (sgn s)) []))) x = some (.ins (He.ga K "Kind") dx [("letters", vS (sgn s))]) := by rw [upd_same]; rfl
    show (tSeq _ _) _ _ (upd H2 x (.ins (He.ga K "Kind") dx (putF "letters" (vS (sgn s)) [])))
    revert e3 h3
    generalize upd H2 x (.ins (He.ga K "Kind") dx (putF "letters" (vS (sgn s)) [])) = H3
    intro e3 h3
    walk_at "go"
    refine s_T (by simp) ?_
    walk_at "go"
    refine lc2_SS (l := s) (m := s) (by decide) (fun c => rfl) (by omega) (by omega) (fun c d => vS [c, d]) (fun c d H4 C hc hd e4 kk => ?_) fun D H4 hD e4 hd => ?_
    · walk_at "go"
      exact kk _ Ex.rfl
    walk_at "go"
    have hv : vals2 (fun c d => vS [c, d]) s s = (prs s).map vS := by
      unfold vals2 prs
      rw [List.map_flatMap]
      congr 1
      funext c
      rw [List.map_map]
      rfl
    rw [hv] at hd
    refine s_srtL (SqL.of hd) (by rw [prs_len]; have := Nat.mul_le_mul h4 h4; omega) fun p5 H5 n5 e5 h5 => ?_
    walk_at "go"
    refine s_tupOf (SqL.of h5) fun q H6 n6 e6 h6 => ?_
    walk_at "go"
    have h6x : H6 x = some (.ins (He.ga K "Kind") dx [("letters", vS (sgn s))]) := by walk_at "hp"
    have eH6 : Ex [x] H H6 := by walk_at "exs"
    exact fin H6 q eH6 h6x h6
  · refine s_T (by simp) ?_
    walk_at "go"
    refine u_check_pairs (e1.sqT (by simp) ht) hg h64 fun H2 e2 => ?_
    walk_at "go"
    refine s_srtS (by omega) fun p3 H3 n3 e3 h3 => ?_
    walk_at "go"
    refine s_join0 (ls := srt (s.map fun c => [c])) (SqL.of h3) (by rw [flat_len1]; omega) ?_
    walk_at "go"
    refine ⟨x, _, dx, _, rfl, by walk_at "hp", F.cl, F.na1, by simp, ?_⟩
    have e4 : Ex [x] H3 (upd H3 x (.ins (He.ga K "Kind") dx (putF "letters" (vS (sgn s)) []))) := Ex.put (by simp)
    have h4 : (upd H3 x (.ins (He.ga K "Kind") dx (putF "letters" (vS (sgn s)) []))) x = some (.ins (He.ga K "Kind") dx [("letters", vS (sgn s))]) := by rw [upd_same]; rfl
    have ht4 : SqT K (upd H3 x (.ins (He.ga K "Kind") dx (putF "letters" (vS (sgn s)) []))) t (ps.map vS) := by
      have h0 : SqT K H3 t (ps.map vS) := by walk_at "sqt"
      have hx3 : H3 x = some (.ins (He.ga K "Kind") dx []) := by walk_at "hp"
      rcases h0 with (h | ⟨o, h⟩) | h
      · exact e4.sqT (by simp only [List.mem_singleton]; intro w; rw [w, hx3] at h; cases h) (.inl (.inl h))
      · exact e4.sqT (by simp only [List.mem_singleton]; intro w; rw [w, hx3] at h; cases h) (.inl (.inr ⟨o, h⟩))
      · exact .inr h
    show (tSeq _ _) _ _ (upd H3 x (.ins (He.ga K "Kind") dx (putF "letters" (vS (sgn s)) [])))
    revert e4 h4 ht4
    generalize upd H3 x (.ins (He.ga K "Kind") dx (putF "letters" (vS (sgn s)) [])) = H4
    intro e4 h4 ht4
    walk_at "go"
    refine s_F (by simp) ?_
    walk_at "go"
    refine s_srtT ht4 h64 fun p5 H5 n5 e5 h5 => ?_
    walk_at "go"
    refine s_tupOf (SqL.of h5) fun q H6 n6 e6 h6 => ?_
    walk_at "go"
    have h6x : H6 x = some (.ins (He.ga K "Kind") dx [("letters", vS (sgn s))]) := by walk_at "hp"
    have eH6 : Ex [x] H H6 := by walk_at "exs"
    exact fin H6 q eH6 h6x h6
theorem pure_Kind_closes (h : sp_Kind_closes K vs H Q E) : t_Kind_closes K (E1 Q) (start ["self", "text", "at"] vs) H := by
  obtain ⟨a, w, rfl, l, ps, hk, hw, k⟩ := h
  show t_Kind_closes K (E1 Q) [some (.ref a), some (vS w), none] H
  unfold t_Kind_closes
  walk_at "go"
  refine lc_fmR (by omega) (fun i => !decide ([prevC w i, w.getD i 0] ∈ ps)) (fun i => .int ((0 : Int) + i)) (fun i H1 C1 C0 hi e1 k1 k0 => ?_) (fun D H1 hD e1 hd => ?_)
  · have hi : i < w.length := by omega
    walk_at "go"
    refine s_ixS (c := prevC w i) (by walk_at "sz") (at_prev hi) ?_
    walk_at "go"
    refine s_ixS (c := w.getD i 0) (by walk_at "sz") (at_here hi) ?_
    walk_at "go"
    refine u_fldAllowed F (l := l) (ps := ps) (by walk_at "kind") fun t ht => ?_
    walk_at "go"
    refine s_notInT ht ?_
    walk_at "go"
    refine s_2 (fun hb => ?_) (fun hb => ?_)
    · walk_at "go"
      exact k1 _ Ex.rfl hb
    · exact k0 _ Ex.rfl hb
  walk_at "go"
  rename_i p2 H2 n2 e2 h2
  refine s_eqLInil (l := ((List.range w.length).filter fun i => !decide ([prevC w i, w.getD i 0] ∈ ps)).map fun (i : Nat) => (0 : Int) + i) (by rw [List.map_map]; exact SqL.of (e2.get0 hd)) (SqL.of h2) ?_
  rw [closes_filter]
  exact k _ (e1.trans e2)
include FR
theorem pure_Kind_contains (h : sp_Kind_contains K vs H Q E) : t_Kind_contains K (E1 Q) (start ["self", "value"] vs) H := by
  obtain ⟨a, v, rfl, l, ps, hk, h⟩ := h
  show t_Kind_contains K (E1 Q) [some (.ref a), some v] H
  unfold t_Kind_contains
  walk_at "go"
  rcases h with ⟨b, w, rfl, hr, hw, k⟩ | ⟨hn | ⟨b, l', ps', rfl, hb⟩, k⟩
  · walk_at "go"
    refine u_methKind hk (by decide +kernel) (by decide +kernel) ?_
    walk_at "go"
    exact ⟨_, _, rfl, l, ps, hk, hw, k⟩
  · obtain ⟨n, hn⟩ := hn
    refine u_isiNR FR hn ?_
    walk_at "go"
    exact k
  · refine u_isiKR F hb ?_
    walk_at "go"
    exact k
end
end WB
namespace WB
open PySem PySem.Spec PyProof.Rows L2
def dT1 (ps : List (List Nat)) : PyData := .tuple (ps.map dS)
def rowD (l : List Nat) (ps : List (List Nat)) : PyData := .tuple [dS l, dT1 ps]
theorem lay_T1 {ps : List (List Nat)} (h : ∀ p ∈ ps, plain p) : PyData.canLay0 (dT1 ps) = true := by
  unfold dT1
  rw [PyData.canLay0]
  exact canLay_strs h
theorem dep_T1 (ps : List (List Nat)) : PyData.depth (dT1 ps) ≤ 1 := by
  unfold dT1
  rw [PyData.depth, depth_strs]
  omega
theorem lay_S {l : List Nat} (h : plain l) : PyData.canLay0 (dS l) = true := by
  unfold dS
  rw [PyData.canLay0]
  exact strOk_S h
theorem shaped_row {l : List Nat} {ps : List (List Nat)} (hl : plain l) (h : ∀ p ∈ ps, plain p) : SeqAt.shaped (rowD l ps) = true := by
  unfold SeqAt.shaped rowD
  refine Bool.and_eq_true_iff.mpr ⟨?_, decide_eq_true ?_⟩
  · rw [PyData.canLay0]
    simp only [PyData.canLayAll0, lay_S hl, lay_T1 h, Bool.and_self]
  · have h1 := dep_T1 ps
    rw [PyData.depth]
    simp only [PyData.depthAll]
    have h2 : PyData.depth (dS l) = 0 := by simp [dS, PyData.depth]
    omega
section
variable {K : PySem.W.Frag} {H H' : Hp} {a b p : Addr} {l l' : List Nat} {ps ps' : List (List Nat)} {Q : VK} {E : XK}
theorem dp_T1 {t : Addr} (h : SqT K H t (ps.map vS)) : Dp K H (.ref t) (dT1 ps) := .tup h (dp_strs ps)
theorem dp_row {q t : Addr} (h : SqT K H q [vS l, .ref t]) (ht : SqT K H t (ps.map vS)) : Dp K H (.ref q) (rowD l ps) := .tup h (.cons (.str _) (.cons (dp_T1 ht) .nil))
theorem s_neRow {q t q' t' : Addr} (h : SqT K H q [vS l, .ref t]) (ht : SqT K H t (ps.map vS)) (h' : SqT K H q' [vS l, .ref t']) (ht' : SqT K H t' (ps.map vS)) (hl : plain l) (hp : ∀ p ∈ ps, plain p) (k : Q (.bl false) H) : rNeD K (.ref q) (.ref q') H Q := by
  refine ⟨_, _, dp_row h ht, dp_row h' ht', shaped_row hl hp, shaped_row hl hp, ?_⟩
  rw [SeqAt.eqv_refl _ (Bool.and_eq_true_iff.mp (shaped_row hl hp)).1]
  exact k
def sp_Kind_signs (K : PySem.W.Frag) : Sp := fun vs H Q _ => ∃ a : Addr, vs = [.ref a] ∧ ∃ l ps, KindAt K H a l ps ∧ Q (vS l) H
def sp_Kind_row (K : PySem.W.Frag) : Sp := fun vs H Q _ => ∃ a : Addr, vs = [.ref a] ∧ ∃ l ps, KindAt K H a l ps ∧ ∀ q t H', H q = none → Ex [] H H' → H' q = some (.tup [vS l, .ref t]) → SqT K H' t (ps.map vS) → Q (.ref q) H'
def RowAt (K : PySem.W.Frag) (H : Hp) (q : Addr) (l : List Nat) (ps : List (List Nat)) : Prop := ∃ t, SqT K H q [vS l, .ref t] ∧ SqT K H t (ps.map vS)
theorem RowAt.ex0 (e : Ex [] H H') (h : RowAt K H a l ps) : RowAt K H' a l ps := by
  obtain ⟨t, h1, h2⟩ := h
  exact ⟨t, e.sqT (by simp) h1, e.sqT (by simp) h2⟩
def goodRow (l : List Nat) (ps : List (List Nat)) : Prop := goodS l ∧ sgn l = l ∧ goodP l ps ∧ srt ps = ps ∧ ps.length < 64
def sp_Kind_made (K : PySem.W.Frag) : Sp := fun vs H Q _ => ∃ q : Addr, vs = [.ref (He.ga K "Kind"), .ref q] ∧ ∃ l ps, RowAt K H q l ps ∧ goodRow l ps ∧ ∀ x H', H x = none → Ex [] H H' → KindAt K H' x l ps → Q (.ref x) H'
theorem u_kSigns (h : KindAt K H a l ps) (k : Q (vS l) H) : PropG (He.ga K "Kind") (sp_Kind_signs K) [] E (.ref a) H Q := by
  obtain ⟨dx, t, h1, h2⟩ := id h
  exact ⟨a, dx, _, rfl, h1, a, rfl, l, ps, h, k⟩
theorem u_kRow (h : KindAt K H a l ps) (k : ∀ q t H', H q = none → Ex [] H H' → H' q = some (.tup [vS l, .ref t]) → SqT K H' t (ps.map vS) → Q (.ref q) H') : PropG (He.ga K "Kind") (sp_Kind_row K) [] E (.ref a) H Q := by
  obtain ⟨dx, t, h1, h2⟩ := id h
  exact ⟨a, dx, _, rfl, h1, a, rfl, l, ps, h, k⟩
theorem u_makeKindL {i : Nat} {tr : TA} {σ : St} (hi : σ[i]? = some (some (.ref (He.ga K "Kind")))) (k : tr σ H fun us H1 => MakeG (He.ga K "Kind") (sp_Kind_init K) [] E us H1 Q) : tMakeL i (He.ga K "Kind") (sp_Kind_init K) [] E tr σ H Q := ⟨hi, k⟩
theorem s_cmeth {C : Addr} {sp : Sp} {E : XK} {ta : TE} {tr : TA} {σ : St} (k : ta σ H fun x H1 => x = .ref C ∧ tr σ H1 fun vs H2 => sp (.ref C :: vs) H2 Q E) : ClX.tCMeth C sp E ta tr σ H Q := k
theorem s_cmethK {C : Addr} {n : Nat} {gV : List V → List V → List V} {sp : Sp} {E : XK} {ta : TE} {tr : TA} {σ : St} (k : ta σ H fun x H1 => x = .ref C ∧ tr σ H1 fun zs H2 => zs.length = n ∧ sp (gV [.ref C] zs) H2 Q E) : tCMethK C n sp gV E ta tr σ H Q := k
theorem s_self {x : V} {A : Prop} (k : A) : x = x ∧ A := ⟨rfl, k⟩
end
theorem let_plain {c : Nat} (h : c ∈ LET) : c < 55296 := by
  simp only [LET, List.mem_cons, List.not_mem_nil, or_false] at h
  omega
theorem sgn_perm (s : List Nat) : (sgn s).Perm s := by
  unfold sgn
  have := (srt_perm (s.map fun c => [c])).flatten
  rw [flat1] at this
  exact this
theorem sgn_of_perm {s t : List Nat} (h : s.Perm t) : sgn s = sgn t := by
  unfold sgn
  rw [srt_of_perm (h.map _)]
theorem sgn_idem (s : List Nat) : sgn (sgn s) = sgn s := sgn_of_perm (sgn_perm s)
theorem goodS_perm {s t : List Nat} (h : goodS s) (p : t.Perm s) : goodS t := ⟨isWord_mk (by rw [p.length_eq]; exact (isWord_len h.1).1) (by rw [p.length_eq]; exact (isWord_len h.1).2) fun c hc => isWord_in h.1 c (p.mem_iff.mp hc), by rw [p.length_eq]; exact h.2.1, p.nodup_iff.mpr h.2.2⟩
end WB
namespace WB
open PySem PySem.Spec PyProof.Rows L2
local macro_rules | `(tactic| walk_at "lit") => `(tactic| first | exact lit_abc | exact lit_empty)
local macro_rules | `(tactic| walk_at "nm") => `(tactic| focus first | exact List.not_mem_nil | (simp only [List.mem_singleton]; first | assumption | (exact Ne.symm (by assumption)) | (intro hz; subst hz; simp_all; done)))
local macro_rules | `(tactic| walk_at "hp") => `(tactic| first | assumption | (apply Ex.get0 (by assumption); walk_at "hp") | (apply Ex.get (by assumption); (walk_at "nm"); (walk_at "hp")))
local macro_rules | `(tactic| walk_at "sq") => `(tactic| first | assumption | (apply SqL.of; walk_at "hp") | (apply Ex.sqL (by assumption); (walk_at "nm"); (walk_at "sq")))
local macro_rules | `(tactic| walk_at "sqt") => `(tactic| first | assumption | (apply SqT.of; walk_at "hp") | (apply Ex.sqT (by assumption); (walk_at "nm"); (walk_at "sqt")))
local macro_rules | `(tactic| walk_at "sz") => `(tactic| focus ((with_reducible refine Nat.le_trans (m := 100000) ?_ (by decide)); first | omega | (simp; done) | (simp; omega)))
local macro_rules | `(tactic| walk_at "mul") => `(tactic| first | exact Or.inr ⟨by omega, by omega⟩ | exact Or.inl ⟨by omega, by omega⟩)
local macro_rules | `(tactic| walk_at "pool") => `(tactic| first | assumption | (apply PoolAt.ex (by assumption); (walk_at "nm"); (walk_at "pool")))
local macro_rules | `(tactic| walk_at "ring") => `(tactic| first | assumption | (apply RingAt.ex (by assumption); (walk_at "nm"); (walk_at "ring")))
local macro_rules | `(tactic| walk_at "st") => `(tactic| first
  | with_reducible refine s_seq ?_
  | with_reducible refine s_asg ?_
  | with_reducible refine s_gName ?_
  | with_reducible refine s_ret ?_
  | with_reducible refine s_ifS ?_
  | with_reducible refine s_next ?_
  | with_reducible refine s_op ?_
  | ((with_reducible apply s_var); exact rfl)
  | ((with_reducible apply s_cS); (walk_at "lit"))
  | with_reducible refine s_c ?_
  | with_reducible refine s_cb ?_
  | with_reducible refine s_cons ?_
  | with_reducible refine s_nil ?_
  | with_reducible refine s_un ?_
  | with_reducible refine s_call ?_
  | with_reducible refine s_test ?_
  | with_reducible refine s_tB ?_
  | with_reducible refine s_blQ ?_
  | with_reducible refine s_not ?_
  | with_reducible refine s_and ?_
  | with_reducible refine s_or ?_
  | with_reducible refine s_andV ?_
  | with_reducible refine s_orV ?_
  | with_reducible refine s_notV ?_
  | with_reducible refine s_ifE ?_
  | with_reducible refine s_chain ?_
  | ((with_reducible refine s_T ?_ ?_); (with_reducible exact rfl))
  | with_reducible refine s_nT ?_
  | with_reducible refine s_nF ?_
  | ((with_reducible refine s_F ?_ ?_); (with_reducible exact rfl))
  | ((with_reducible refine s_T ?_ ?_); assumption)
  | ((with_reducible refine s_F ?_ ?_); assumption)
  | ((with_reducible refine s_nB ?_ ?_); assumption)
  | ((with_reducible refine s_nA ?_ ?_); assumption)
  | ((with_reducible refine s_Td ?_ ?_); omega)
  | ((with_reducible refine s_Fd ?_ ?_); omega)
  | ((with_reducible refine s_nTd ?_ ?_); omega)
  | ((with_reducible refine s_nFd ?_ ?_); omega)
  | with_reducible refine s_sfld ?_
  | with_reducible refine s_addI ?_
  | with_reducible refine s_subI ?_
  | ((with_reducible refine s_mulI ?_ ?_); (walk_at "mul"))
  | ((with_reducible refine s_divI ?_ ?_); exact ⟨by omega, by omega⟩)
  | ((with_reducible refine s_modI ?_ ?_); omega)
  | ((with_reducible refine s_powI ?_ ?_); exact ⟨by decide, by decide, by decide⟩)
  | with_reducible refine s_ltI ?_
  | with_reducible refine s_leI ?_
  | with_reducible refine s_gtI ?_
  | with_reducible refine s_geI ?_
  | with_reducible refine s_negI ?_
  | with_reducible refine s_absI ?_
  | with_reducible refine s_intI ?_
  | with_reducible refine s_min2 ?_
  | with_reducible refine s_max2 ?_
  | with_reducible refine s_eqI ?_
  | with_reducible refine s_neI ?_
  | with_reducible refine s_eqS ?_
  | with_reducible refine s_neS ?_
  | with_reducible refine s_inSg ?_
  | with_reducible refine s_notInSg ?_
  | ((with_reducible refine s_addS ?_ ?_); (walk_at "sz"))
  | ((with_reducible refine s_lenS ?_ ?_); (walk_at "sz"))
  | ((with_reducible apply s_lenL); (walk_at "sq"))
  | ((with_reducible apply s_lenT); (walk_at "sqt"))
  | ((with_reducible apply s_ixL); (walk_at "sq"); exact rfl)
  | ((with_reducible apply s_ixT); (walk_at "sqt"); exact rfl)
  | with_reducible refine s_gSub ?_
  | ((with_reducible apply s_setL); (walk_at "hp"); (exact rfl); (intro _ _ _))
  | ((with_reducible refine s_alloc ?_ ?_); (walk_at "sz"); (intro _ _ _ _ _))
  | ((with_reducible refine s_divmod ?_ ?_); (exact ⟨by omega, PyProof.noPylong_small (by omega)⟩); (intro _ _ _ _ _))
  | ((with_reducible apply s_gTup); (walk_at "sqt"); (exact rfl))
  | ((with_reducible apply s_gLst); (walk_at "sq"); (exact rfl))
  | with_reducible refine s_gCons ?_
  | with_reducible refine s_gNil ?_
  | with_reducible refine s_lc ?_
  | ((with_reducible apply s_cat); (walk_at "hp"); (walk_at "hp"); (walk_at "sz"); (intro _ _ _ _ _))
  | ((with_reducible apply s_slL); (walk_at "sq"); (intro _ _ _ _ _))
  | with_reducible refine s_for ?_
  | with_reducible refine s_rng1 ?_
  | ((with_reducible refine s_rng1i ?_ ?_); (constructor <;> omega))
  | with_reducible refine s_rng2 ?_
  | ((with_reducible refine s_rng2i ?_ ?_); (refine ⟨?_, ?_, ?_, ?_⟩ <;> omega))
  | with_reducible refine s_iStr ?_
  | with_reducible refine s_iStrS ?_
  | with_reducible refine s_iList ?_
  | ((with_reducible apply s_iListA); (walk_at "sq"))
  | with_reducible refine s_iTup ?_
  | ((with_reducible apply s_iTupA); (walk_at "sqt"))
  | with_reducible refine s_sl ?_
  | with_reducible refine s_noPart ?_
  | with_reducible refine s_part ?_
  | with_reducible refine s_int1 ?_
  | ((with_reducible refine s_slS ?_ ?_); (walk_at "sz"))
  | with_reducible refine s_tup ?_
  | with_reducible refine s_lst ?_
  | with_reducible refine s_par ?_
  | with_reducible refine s_pair ?_
  | with_reducible refine s_M1 ?_
  | with_reducible refine s_isStr ?_
  | with_reducible refine s_revS ?_
  | ((with_reducible refine s_revS1 ?_ ?_); (walk_at "sz"))
  | with_reducible refine s_fldE ?_
  | with_reducible refine s_propE ?_
  | ((with_reducible refine u_draw ?_ ?_ ?_ ?_); omega; omega; (walk_at "pool"); (intro _ _ _ _ _ _))
  | ((with_reducible refine u_pool ?_); (intro _ _ _ _ _))
  | with_reducible refine u_is_integer ?_
  | with_reducible refine s_isiII ?_
  | with_reducible refine s_isiIB ?_
  | with_reducible refine s_isiSS ?_
  | ((with_reducible apply u_fldRing); assumption; (walk_at "ring"))
  | ((with_reducible apply u_textP); (walk_at "ring"))
  | ((with_reducible apply u_strRing); (walk_at "ring"))
  | ((with_reducible apply u_eqRing); (walk_at "ring"); (walk_at "ring"))
  | ((with_reducible apply u_isiRing); assumption; (walk_at "ring"))
  | ((with_reducible refine u_is_word ?_ ?_); omega; (intro _ _))
  | ((with_reducible refine u_turnings ?_ ?_); omega; (intro _ _ _ _ _))
  | with_reducible refine s_makeE ?_
  | with_reducible refine s_methE ?_)
local macro_rules | `(tactic| walk_at "go") => `(tactic| repeat (walk_at "st"))
local macro_rules | `(tactic| walk_at "exs") => `(tactic| first | exact Ex.rfl | assumption | (apply Ex.snoc (by assumption); walk_at "exs") | (apply Ex.snocW (by assumption); walk_at "exs"))
local macro_rules | `(tactic| walk_at "kind") => `(tactic| first | assumption | (apply KindAt.ex0 (by assumption); (walk_at "kind")) | (apply KindAt.exP (by assumption) (by assumption); (walk_at "kind")))
local macro_rules | `(tactic| walk_at "st") => `(tactic| first
  | with_reducible refine s_lenSet ?_
  | with_reducible refine s_drop ?_
  | with_reducible refine s_bm ?_
  | with_reducible refine s_notN ?_
  | with_reducible refine s_isN ?_
  | ((with_reducible apply s_tyL); (walk_at "hp"))
  | with_reducible refine s_enumT ?_
  | ((with_reducible apply s_enumTA); (walk_at "sqt"))
  | with_reducible refine s_lc2 ?_)
local macro_rules | `(tactic| walk_at "st") => `(tactic| first
  | with_reducible refine s_makeK ?_
  | with_reducible refine s_cmeth ?_
  | with_reducible refine s_cmethK ?_
  | with_reducible refine s_self ?_
  | ((with_reducible apply u_kSigns); (walk_at "kind")))
def t_Kind_signs (K : PySem.W.Frag) : TS :=
  (tRet (tFld K (tVar 0) "letters"))
def t_Kind_row (K : PySem.W.Frag) : TS :=
  (tRet (tTup (tCons (tFld K (tVar 0) "letters") (tCons (tFld K (tVar 0) "allowed") tNil))))
def t_Kind_made (K : PySem.W.Frag) : TS :=
  (tSeq (tIfS (tNot (tB (tCall (sp_is_row K) [] E0 (tCons (tVar 1) (tCons (tC (.int 2)) tNil))))) tNever tNext)
  (tSeq (tAsg (tMakeL 0 (He.ga K "Kind") (sp_Kind_init K) [] E0 (tCons (tOp (rIxT K) (tVar 1) (tC (.int 0))) (tCons (tOp (rIxT K) (tVar 1) (tC (.int 1))) tNil))) (gName 2))
  (tSeq (tIfS (tTest (tOp (rNeD K) (tProp (He.ga K "Kind") (sp_Kind_row K) [] E0 (tVar 2)) (tVar 1))) tNever tNext)
  (tRet (tVar 2)))))
section
variable {K : PySem.W.Frag} {vs : List V} {H : Hp} {Q : VK} {E : XK}
variable (F : KindK K)
include F
theorem pure_Kind_signs (h : sp_Kind_signs K vs H Q E) : t_Kind_signs K (E1 Q) (start ["self"] vs) H := by
  obtain ⟨a, rfl, l, ps, hk, k⟩ := h
  show t_Kind_signs K (E1 Q) [some (.ref a)] H
  unfold t_Kind_signs
  walk_at "go"
  exact u_fldLetters F hk k
theorem pure_Kind_row (h : sp_Kind_row K vs H Q E) : t_Kind_row K (E1 Q) (start ["self"] vs) H := by
  obtain ⟨a, rfl, l, ps, hk, k⟩ := h
  show t_Kind_row K (E1 Q) [some (.ref a)] H
  unfold t_Kind_row
  walk_at "go"
  refine u_fldLetters F hk ?_
  walk_at "go"
  refine u_fldAllowed F hk fun t ht => ?_
  walk_at "go"
  rename_i q H1 n1 e1 h1
  exact k q t H1 n1 e1 h1 (e1.sqT (by simp) ht)
theorem pure_Kind_made (h : sp_Kind_made K vs H Q E) : t_Kind_made K (E1 Q) (start ["cls", "row", "kind"] vs) H := by
  obtain ⟨q, rfl, l, ps, ⟨t, hq, ht⟩, ⟨g1, g2, g3, g4, g5⟩, k⟩ := h
  show t_Kind_made K (E1 Q) [some (.ref (He.ga K "Kind")), some (.ref q), none] H
  unfold t_Kind_made
  walk_at "go"
  refine u_row hq ?_
  walk_at "go"
  refine s_nFd rfl ?_
  walk_at "go"
  refine u_makeKindL ?_ ?_
  · exact rfl
  walk_at "go"
  refine u_makeKind (s := l) (v := .ref t) (ps := ps) rfl g1 (.inr ⟨t, rfl, ht, g3, g5⟩) fun x H1 n1 e1 hk => ?_
  rw [g2, g4] at hk
  walk_at "go"
  refine u_kRow hk fun q' t' H2 n2 e2 h2 ht2 => ?_
  walk_at "go"
  refine s_neRow (SqT.of h2) ht2 (by walk_at "sqt") (t' := t) (by walk_at "sqt") (fun c hc => let_plain (isWord_in g1.1 c hc)) (fun p hp c hc => let_plain (isWord_in g1.1 c ((g3.2 p hp).2 c hc))) ?_
  walk_at "go"
  exact k x H2 n1 (e1.trans e2) (hk.ex0 e2)
end
end WB
namespace WB
open PySem PySem.Spec PyProof.Rows L2
def Scal (v : V) (d : PyData) : Prop := (v = .non ∧ d = .none) ∨ (∃ b, v = .bl b ∧ d = .bool b) ∨ (∃ i, v = .int i ∧ d = .int i) ∨ (∃ l, plain l ∧ v = vS l ∧ d = dS l)
def Dd (K : PySem.W.Frag) (H : Hp) : Nat → V → PyData → Prop
  | 0, v, d => Scal v d
  | n + 1, v, d => Scal v d ∨ (∃ a xs ds, v = .ref a ∧ d = .tuple ds ∧ SqT K H a xs ∧ xs.length ≤ 1000 ∧ ds.length = xs.length ∧ ∀ (i : Nat) x e, xs[i]? = some x → ds[i]? = some e → Dd K H n x e) ∨
    (∃ a xs ds, v = .ref a ∧ d = .list ds ∧ H a = some (.lst xs) ∧ xs.length ≤ 1000 ∧ ds.length = xs.length ∧ ∀ (i : Nat) x e, xs[i]? = some x → ds[i]? = some e → Dd K H n x e)
def Fr (F : Addr → Prop) (H : Hp) : Nat → V → PyData → Prop
  | 0, v, d => Scal v d
  | n + 1, v, d => Scal v d ∨ (∃ a xs ds, v = .ref a ∧ d = .list ds ∧ F a ∧ H a = some (.lst xs) ∧ ds.length = xs.length ∧ ∀ (i : Nat) x e, xs[i]? = some x → ds[i]? = some e → Fr F H n x e)
theorem Scal.dp {K : PySem.W.Frag} {H : Hp} {v : V} {d : PyData} (h : Scal v d) : Dp K H v d := by
  rcases h with ⟨rfl, rfl⟩ | ⟨b, rfl, rfl⟩ | ⟨i, rfl, rfl⟩ | ⟨l, _, rfl, rfl⟩
  · exact .non
  · exact .bl b
  · exact .int i
  · exact .str _
theorem dpAll_of {K : PySem.W.Frag} {H : Hp} : ∀ (xs : List V) (ds : List PyData), ds.length = xs.length → (∀ (i : Nat) x e, xs[i]? = some x → ds[i]? = some e → Dp K H x e) → DpAll K H xs ds
  | [], [], _, _ => .nil
  | x :: xs, d :: ds, hl, h => .cons (h 0 x d rfl rfl) (dpAll_of xs ds (by simpa using hl) fun i y e h1 h2 => h (i + 1) y e h1 h2)
theorem Fr.mono {F F' : Addr → Prop} {H H' : Hp} (hF : ∀ a, F a → F' a) (hh : ∀ a xs, F a → H a = some (.lst xs) → H' a = some (.lst xs)) : ∀ (n : Nat) (v : V) (d : PyData), Fr F H n v d → Fr F' H' n v d
  | 0, _, _, h => h
  | n + 1, v, d, h => by
    rcases h with h | ⟨a, xs, ds, rfl, rfl, f, h1, hl, h2⟩
    · exact .inl h
    · exact .inr ⟨a, xs, ds, rfl, rfl, hF a f, hh a xs f h1, hl, fun i x e hx he => Fr.mono hF hh n x e (h2 i x e hx he)⟩
theorem Dd.ex {K : PySem.W.Frag} {H H' : Hp} (e : Ex [] H H') : ∀ (n : Nat) (v : V) (d : PyData), Dd K H n v d → Dd K H' n v d
  | 0, _, _, h => h
  | n + 1, v, d, h => by
    rcases h with h | ⟨a, xs, ds, rfl, rfl, h1, hn, hl, h2⟩ | ⟨a, xs, ds, rfl, rfl, h1, hn, hl, h2⟩
    · exact .inl h
    · exact .inr (.inl ⟨a, xs, ds, rfl, rfl, e.sqT (by simp) h1, hn, hl, fun i x y hx hy => Dd.ex e n x y (h2 i x y hx hy)⟩)
    · exact .inr (.inr ⟨a, xs, ds, rfl, rfl, e.get0 h1, hn, hl, fun i x y hx hy => Dd.ex e n x y (h2 i x y hx hy)⟩)
theorem lay_all : ∀ {ds : List PyData}, (∀ e ∈ ds, PyData.canLay0 e = true) → PyData.canLayAll0 ds = true
  | [], _ => by simp [PyData.canLayAll0]
  | d :: ds, h => by
    rw [PyData.canLayAll0]
    exact Bool.and_eq_true_iff.mpr ⟨h d List.mem_cons_self, lay_all fun e he => h e (List.mem_cons_of_mem _ he)⟩
theorem dep_all {m : Nat} : ∀ {ds : List PyData}, (∀ e ∈ ds, PyData.depth e ≤ m) → PyData.depthAll ds ≤ m
  | [], _ => by simp [PyData.depthAll]
  | d :: ds, h => by
    rw [PyData.depthAll]
    exact Nat.max_le.mpr ⟨h d List.mem_cons_self, dep_all fun e he => h e (List.mem_cons_of_mem _ he)⟩
theorem lay_dS {l : List Nat} (h : plain l) : PyData.canLay0 (dS l) = true := by
  unfold dS
  rw [PyData.canLay0]
  exact strOk_S h
theorem dep_dS {l : List Nat} : PyData.depth (dS l) = 0 := by simp [dS, PyData.depth]
theorem scal_shape {v : V} {d : PyData} (h : Scal v d) : PyData.canLay0 d = true ∧ PyData.depth d = 0 := by
  rcases h with ⟨rfl, rfl⟩ | ⟨b, rfl, rfl⟩ | ⟨i, rfl, rfl⟩ | ⟨l, hl, rfl, rfl⟩
  · simp [PyData.canLay0, PyData.depth]
  · simp [PyData.canLay0, PyData.depth]
  · simp [PyData.canLay0, PyData.depth]
  · exact ⟨lay_dS hl, dep_dS⟩
theorem mem_get {α : Type} {l : List α} {x : α} (h : x ∈ l) : ∃ i : Nat, l[i]? = some x := List.mem_iff_getElem?.mp h
end WB
namespace WB
open PySem PySem.Spec PyProof.Rows L2
theorem lit_116_117_112_108_101 : ("tuple" : Str) = S [116, 117, 112, 108, 101] := by decide +kernel
theorem lit_108_105_115_116 : ("list" : Str) = S [108, 105, 115, 116] := by decide +kernel
theorem lit_100_105_99_116 : ("dict" : Str) = S [100, 105, 99, 116] := by decide +kernel
theorem lit_116_114_117_116_104 : ("truth" : Str) = S [116, 114, 117, 116, 104] := by decide +kernel
theorem lit_112_108_97_105_110 : ("plain" : Str) = S [112, 108, 97, 105, 110] := by decide +kernel
end WB
namespace WB
open PySem PySem.Spec PyProof.Rows L2
theorem perm_of_sub {α : Type} [DecidableEq α] : ∀ (ps qs : List α), ps.Nodup → (∀ p ∈ ps, p ∈ qs) → qs.length ≤ ps.length → ps.Perm qs
  | [], qs, _, _, hl => by
    have : qs = [] := List.length_eq_zero_iff.mp (by simpa using hl)
    rw [this]
  | x :: ps, qs, hn, hs, hl => by
    obtain ⟨h1, h2⟩ := List.nodup_cons.mp hn
    have hx : x ∈ qs := hs x List.mem_cons_self
    have hp := List.perm_cons_erase hx
    refine (List.Perm.cons x (perm_of_sub ps (qs.erase x) h2 (fun p hp => ?_) ?_)).trans hp.symm
    · have ne : p ≠ x := fun e => h1 (by rw [← e]; exact hp)
      exact (List.mem_erase_of_ne ne).mpr (hs p (List.mem_cons_of_mem _ hp))
    · have := hp.length_eq
      rw [List.length_cons] at this hl
      omega
end WB
namespace WB
open PySem PySem.Spec PyProof.Rows L2
theorem cutpt {T : TE} {σ : St} {H : Hp} {Q : VK} (P : V → Hp → Prop) (h1 : ∀ Q' : VK, (∀ v G, P v G → Q' v G) → T σ H Q') (h2 : ∀ v G, P v G → Q v G) : T σ H Q := h1 Q h2
end WB
namespace WB
open PySem PySem.Spec PyProof.Rows L2
def MRK : List Nat := LET ++ [48, 49, 50, 51, 52, 53, 54, 55, 56, 57]
def isName (l : List Nat) : Prop := 1 ≤ l.length ∧ l.length ≤ 8 ∧ (∃ c r, l = c :: r ∧ c ∈ LET) ∧ ∀ c ∈ l, c ∈ MRK
theorem lit_MRK : ("abcdefghijklmnopqrstuvwxyz0123456789" : Str) = S MRK := by decide +kernel
structure Rw where
  a : List Nat
  c : Nat
  b : List Nat
  n : Int
structure Tn where
  a : List Nat
  b : List Nat
  n : Int
structure LM where
  ab : List Nat
  st : List (List Nat)
  tb : List Nat → Nat → List Nat × Int
  en : List Nat → List Nat × Int
  ok : List (List Nat)
def goodSt (st : List (List Nat)) : Prop := 1 ≤ st.length ∧ st.length ≤ 6 ∧ st.Nodup ∧ ∀ a ∈ st, isName a
structure GoodM (M : LM) : Prop where
  ab : goodS M.ab
  st : goodSt M.st
  tb : ∀ a ∈ M.st, ∀ c ∈ M.ab, (M.tb a c).1 ∈ M.st
  en : ∀ a ∈ M.st, (M.en a).1 ∈ M.st
  ok : ∀ a ∈ M.ok, a ∈ M.st
def goodRws (s : List Nat) (st : List (List Nat)) (rs : List Rw) : Prop := (∀ r ∈ rs, r.a ∈ st ∧ r.c ∈ s ∧ r.b ∈ st) ∧ (rs.map fun r => (r.a, r.c)).Nodup ∧ rs.length = s.length * st.length
def goodTns (st : List (List Nat)) (ts : List Tn) : Prop := (∀ t ∈ ts, t.a ∈ st ∧ t.b ∈ st) ∧ (ts.map fun t => t.a).Nodup
def goodYes (st ys : List (List Nat)) : Prop := (∀ y ∈ ys, y ∈ st) ∧ ys.Nodup
def rwV (r : Rw) : List V := [vS r.a, vS [r.c], vS r.b, .int r.n]
def tnV (t : Tn) : List V := [vS t.a, vS t.b, .int t.n]
def TupsAt (K : PySem.W.Frag) (H : Hp) (t : Addr) (ls : List (List V)) : Prop := ∃ xs, SqT K H t xs ∧ xs.length = ls.length ∧ ∀ (i : Nat) x l, xs[i]? = some x → ls[i]? = some l → ∃ p, x = .ref p ∧ SqT K H p l
section
variable {K : PySem.W.Frag} {H H' : Hp} {Q : VK} {E : XK} {t a : Addr}
theorem TupsAt.ex0 {ls : List (List V)} (e : Ex [] H H') (h : TupsAt K H t ls) : TupsAt K H' t ls := by
  obtain ⟨xs, h1, h2, h3⟩ := h
  refine ⟨xs, e.sqT (by simp) h1, h2, fun i x l hx hl => ?_⟩
  obtain ⟨p, h4, h5⟩ := h3 i x l hx hl
  exact ⟨p, h4, e.sqT (by simp) h5⟩
theorem TupsAt.exP {ls : List (List V)} (hp : PoolAt H a) (e : Ex [a] H H') (h : TupsAt K H t ls) : TupsAt K H' t ls := by
  obtain ⟨xs, h1, h2, h3⟩ := h
  refine ⟨xs, sqT_pool hp e h1, h2, fun i x l hx hl => ?_⟩
  obtain ⟨p, h4, h5⟩ := h3 i x l hx hl
  exact ⟨p, h4, sqT_pool hp e h5⟩
def sp_is_name (K : PySem.W.Frag) : Sp := fun vs H Q _ => ∃ l : List Nat, vs = [vS l] ∧ isName l ∧ ∀ H', Ex [] H H' → Q (.bl true) H'
def sp_is_step (K : PySem.W.Frag) : Sp := fun vs H Q _ => ∃ (p : Addr) (s : List Nat) (t : Addr), vs = [.ref p, vS s, .ref t] ∧ ∃ (r : Rw) (st : List (List Nat)), SqT K H p (rwV r) ∧ SqT K H t (st.map vS) ∧ r.a ∈ st ∧ r.c ∈ s ∧ r.b ∈ st ∧ ∀ H', Ex [] H H' → Q (.bl true) H'
def sp_is_turn (K : PySem.W.Frag) : Sp := fun vs H Q _ => ∃ (p t : Addr), vs = [.ref p, .ref t] ∧ ∃ (r : Tn) (st : List (List Nat)), SqT K H p (tnV r) ∧ SqT K H t (st.map vS) ∧ r.a ∈ st ∧ r.b ∈ st ∧ ∀ H', Ex [] H H' → Q (.bl true) H'
def sp_check_states (K : PySem.W.Frag) : Sp := fun vs H Q _ => ∃ t : Addr, vs = [.ref t] ∧ ∃ st : List (List Nat), SqT K H t (st.map vS) ∧ goodSt st ∧ ∀ H', Ex [] H H' → Q .non H'
def sp_check_rows (K : PySem.W.Frag) : Sp := fun vs H Q _ => ∃ (s : List Nat) (t u : Addr), vs = [vS s, .ref t, .ref u] ∧ ∃ (st : List (List Nat)) (rs : List Rw), goodS s ∧ SqT K H t (st.map vS) ∧ goodSt st ∧ TupsAt K H u (rs.map rwV) ∧ goodRws s st rs ∧ ∀ H', Ex [] H H' → Q .non H'
def sp_check_turns (K : PySem.W.Frag) : Sp := fun vs H Q _ => ∃ (t u : Addr), vs = [.ref t, .ref u] ∧ ∃ (st : List (List Nat)) (ts : List Tn), SqT K H t (st.map vS) ∧ goodSt st ∧ TupsAt K H u (ts.map tnV) ∧ goodTns st ts ∧ ∀ H', Ex [] H H' → Q .non H'
def sp_check_yes (K : PySem.W.Frag) : Sp := fun vs H Q _ => ∃ (t u : Addr), vs = [.ref t, .ref u] ∧ ∃ st ys : List (List Nat), SqT K H t (st.map vS) ∧ SqT K H u (ys.map vS) ∧ goodYes st ys ∧ ∀ H', Ex [] H H' → Q .non H'
theorem u_is_name {l : List Nat} (h : isName l) (k : ∀ H', Ex [] H H' → Q (.bl true) H') : sp_is_name K ([vS l] ++ []) H Q E := ⟨l, rfl, h, k⟩
theorem u_is_step {p t : Addr} {s : List Nat} {r : Rw} {st : List (List Nat)} (h1 : SqT K H p (rwV r)) (h2 : SqT K H t (st.map vS)) (ha : r.a ∈ st) (hc : r.c ∈ s) (hb : r.b ∈ st) (k : ∀ H', Ex [] H H' → Q (.bl true) H') : sp_is_step K ([.ref p, vS s, .ref t] ++ []) H Q E := ⟨p, s, t, rfl, r, st, h1, h2, ha, hc, hb, k⟩
theorem u_is_turn {p t : Addr} {r : Tn} {st : List (List Nat)} (h1 : SqT K H p (tnV r)) (h2 : SqT K H t (st.map vS)) (ha : r.a ∈ st) (hb : r.b ∈ st) (k : ∀ H', Ex [] H H' → Q (.bl true) H') : sp_is_turn K ([.ref p, .ref t] ++ []) H Q E := ⟨p, t, rfl, r, st, h1, h2, ha, hb, k⟩
theorem u_check_states {st : List (List Nat)} (h : SqT K H t (st.map vS)) (hg : goodSt st) (k : ∀ H', Ex [] H H' → Q .non H') : sp_check_states K ([.ref t] ++ []) H Q E := ⟨t, rfl, st, h, hg, k⟩
theorem u_check_rows {s : List Nat} {u : Addr} {st : List (List Nat)} {rs : List Rw} (hs : goodS s) (h : SqT K H t (st.map vS)) (hg : goodSt st) (hr : TupsAt K H u (rs.map rwV)) (hgr : goodRws s st rs) (k : ∀ H', Ex [] H H' → Q .non H') : sp_check_rows K ([vS s, .ref t, .ref u] ++ []) H Q E := ⟨s, t, u, rfl, st, rs, hs, h, hg, hr, hgr, k⟩
theorem u_check_turns {u : Addr} {st : List (List Nat)} {ts : List Tn} (h : SqT K H t (st.map vS)) (hg : goodSt st) (hr : TupsAt K H u (ts.map tnV)) (hgr : goodTns st ts) (k : ∀ H', Ex [] H H' → Q .non H') : sp_check_turns K ([.ref t, .ref u] ++ []) H Q E := ⟨t, u, rfl, st, ts, h, hg, hr, hgr, k⟩
theorem u_check_yes {u : Addr} {st ys : List (List Nat)} (h : SqT K H t (st.map vS)) (hr : SqT K H u (ys.map vS)) (hgr : goodYes st ys) (k : ∀ H', Ex [] H H' → Q .non H') : sp_check_yes K ([.ref t, .ref u] ++ []) H Q E := ⟨t, u, rfl, st, ys, h, hr, hgr, k⟩
end
theorem nodup_le {α : Type} [DecidableEq α] : ∀ (ps qs : List α), ps.Nodup → (∀ p ∈ ps, p ∈ qs) → ps.length ≤ qs.length
  | [], _, _, _ => Nat.zero_le _
  | x :: ps, qs, hn, hs => by
    obtain ⟨h1, h2⟩ := List.nodup_cons.mp hn
    have hx : x ∈ qs := hs x List.mem_cons_self
    have := nodup_le ps (qs.erase x) h2 fun p hp => (List.mem_erase_of_ne (fun (e : p = x) => h1 (by rw [← e]; exact hp))).mpr (hs p (List.mem_cons_of_mem _ hp))
    rw [List.length_erase_of_mem hx] at this
    have := List.length_pos_of_mem hx
    simp only [List.length_cons]
    omega
theorem take1 {α β : Type} (f : α → β) {l : List α} {i : Nat} (h : i < l.length) : (l.take (i + 1)).map f = (l.take i).map f ++ [f l[i]] := by
  rw [List.take_add_one, List.getElem?_eq_getElem h, List.map_append]
  rfl
theorem name_plain {l : List Nat} (h : isName l) : plain l := fun c hc => by
  have := h.2.2.2 c hc
  rcases List.mem_append.mp this with h | h
  · exact let_plain h
  · exact (show ∀ c ∈ [48, 49, 50, 51, 52, 53, 54, 55, 56, 57], c < 55296 by decide) c h
end WB
namespace WB
open PySem PySem.Spec PyProof.Rows L2
local macro_rules | `(tactic| walk_at "lit") => `(tactic| first | exact lit_abc | exact lit_empty)
local macro_rules | `(tactic| walk_at "nm") => `(tactic| focus first | exact List.not_mem_nil | (simp only [List.mem_singleton]; first | assumption | (exact Ne.symm (by assumption)) | (intro hz; subst hz; simp_all; done)))
local macro_rules | `(tactic| walk_at "hp") => `(tactic| first | assumption | (apply Ex.get0 (by assumption); walk_at "hp") | (apply Ex.get (by assumption); (walk_at "nm"); (walk_at "hp")))
local macro_rules | `(tactic| walk_at "sq") => `(tactic| first | assumption | (apply SqL.of; walk_at "hp") | (apply Ex.sqL (by assumption); (walk_at "nm"); (walk_at "sq")))
local macro_rules | `(tactic| walk_at "sqt") => `(tactic| first | assumption | (apply SqT.of; walk_at "hp") | (apply Ex.sqT (by assumption); (walk_at "nm"); (walk_at "sqt")))
local macro_rules | `(tactic| walk_at "sz") => `(tactic| focus ((with_reducible refine Nat.le_trans (m := 100000) ?_ (by decide)); first | omega | (simp; done) | (simp; omega)))
local macro_rules | `(tactic| walk_at "mul") => `(tactic| first | exact Or.inr ⟨by omega, by omega⟩ | exact Or.inl ⟨by omega, by omega⟩)
local macro_rules | `(tactic| walk_at "pool") => `(tactic| first | assumption | (apply PoolAt.ex (by assumption); (walk_at "nm"); (walk_at "pool")))
local macro_rules | `(tactic| walk_at "ring") => `(tactic| first | assumption | (apply RingAt.ex (by assumption); (walk_at "nm"); (walk_at "ring")))
local macro_rules | `(tactic| walk_at "st") => `(tactic| first
  | with_reducible refine s_seq ?_
  | with_reducible refine s_asg ?_
  | with_reducible refine s_gName ?_
  | with_reducible refine s_ret ?_
  | with_reducible refine s_ifS ?_
  | with_reducible refine s_next ?_
  | with_reducible refine s_op ?_
  | ((with_reducible apply s_var); exact rfl)
  | ((with_reducible apply s_cS); (walk_at "lit"))
  | with_reducible refine s_c ?_
  | with_reducible refine s_cb ?_
  | with_reducible refine s_cons ?_
  | with_reducible refine s_nil ?_
  | with_reducible refine s_un ?_
  | with_reducible refine s_call ?_
  | with_reducible refine s_test ?_
  | with_reducible refine s_tB ?_
  | with_reducible refine s_blQ ?_
  | with_reducible refine s_not ?_
  | with_reducible refine s_and ?_
  | with_reducible refine s_or ?_
  | with_reducible refine s_andV ?_
  | with_reducible refine s_orV ?_
  | with_reducible refine s_notV ?_
  | with_reducible refine s_ifE ?_
  | with_reducible refine s_chain ?_
  | ((with_reducible refine s_T ?_ ?_); (with_reducible exact rfl))
  | with_reducible refine s_nT ?_
  | with_reducible refine s_nF ?_
  | ((with_reducible refine s_F ?_ ?_); (with_reducible exact rfl))
  | ((with_reducible refine s_T ?_ ?_); assumption)
  | ((with_reducible refine s_F ?_ ?_); assumption)
  | ((with_reducible refine s_nB ?_ ?_); assumption)
  | ((with_reducible refine s_nA ?_ ?_); assumption)
  | ((with_reducible refine s_Td ?_ ?_); omega)
  | ((with_reducible refine s_Fd ?_ ?_); omega)
  | ((with_reducible refine s_nTd ?_ ?_); omega)
  | ((with_reducible refine s_nFd ?_ ?_); omega)
  | with_reducible refine s_sfld ?_
  | with_reducible refine s_addI ?_
  | with_reducible refine s_subI ?_
  | ((with_reducible refine s_mulI ?_ ?_); (walk_at "mul"))
  | ((with_reducible refine s_divI ?_ ?_); exact ⟨by omega, by omega⟩)
  | ((with_reducible refine s_modI ?_ ?_); omega)
  | ((with_reducible refine s_powI ?_ ?_); exact ⟨by decide, by decide, by decide⟩)
  | with_reducible refine s_ltI ?_
  | with_reducible refine s_leI ?_
  | with_reducible refine s_gtI ?_
  | with_reducible refine s_geI ?_
  | with_reducible refine s_negI ?_
  | with_reducible refine s_absI ?_
  | with_reducible refine s_intI ?_
  | with_reducible refine s_min2 ?_
  | with_reducible refine s_max2 ?_
  | with_reducible refine s_eqI ?_
  | with_reducible refine s_neI ?_
  | with_reducible refine s_eqS ?_
  | with_reducible refine s_neS ?_
  | with_reducible refine s_inSg ?_
  | with_reducible refine s_notInSg ?_
  | ((with_reducible refine s_addS ?_ ?_); (walk_at "sz"))
  | ((with_reducible refine s_lenS ?_ ?_); (walk_at "sz"))
  | ((with_reducible apply s_lenL); (walk_at "sq"))
  | ((with_reducible apply s_lenT); (walk_at "sqt"))
  | ((with_reducible apply s_ixL); (walk_at "sq"); exact rfl)
  | ((with_reducible apply s_ixT); (walk_at "sqt"); exact rfl)
  | with_reducible refine s_gSub ?_
  | ((with_reducible apply s_setL); (walk_at "hp"); (exact rfl); (intro _ _ _))
  | ((with_reducible refine s_alloc ?_ ?_); (walk_at "sz"); (intro _ _ _ _ _))
  | ((with_reducible refine s_divmod ?_ ?_); (exact ⟨by omega, PyProof.noPylong_small (by omega)⟩); (intro _ _ _ _ _))
  | ((with_reducible apply s_gTup); (walk_at "sqt"); (exact rfl))
  | ((with_reducible apply s_gLst); (walk_at "sq"); (exact rfl))
  | with_reducible refine s_gCons ?_
  | with_reducible refine s_gNil ?_
  | with_reducible refine s_lc ?_
  | ((with_reducible apply s_cat); (walk_at "hp"); (walk_at "hp"); (walk_at "sz"); (intro _ _ _ _ _))
  | ((with_reducible apply s_slL); (walk_at "sq"); (intro _ _ _ _ _))
  | with_reducible refine s_for ?_
  | with_reducible refine s_rng1 ?_
  | ((with_reducible refine s_rng1i ?_ ?_); (constructor <;> omega))
  | with_reducible refine s_rng2 ?_
  | ((with_reducible refine s_rng2i ?_ ?_); (refine ⟨?_, ?_, ?_, ?_⟩ <;> omega))
  | with_reducible refine s_iStr ?_
  | with_reducible refine s_iStrS ?_
  | with_reducible refine s_iList ?_
  | ((with_reducible apply s_iListA); (walk_at "sq"))
  | with_reducible refine s_iTup ?_
  | ((with_reducible apply s_iTupA); (walk_at "sqt"))
  | with_reducible refine s_sl ?_
  | with_reducible refine s_noPart ?_
  | with_reducible refine s_part ?_
  | with_reducible refine s_int1 ?_
  | ((with_reducible refine s_slS ?_ ?_); (walk_at "sz"))
  | with_reducible refine s_tup ?_
  | with_reducible refine s_lst ?_
  | with_reducible refine s_par ?_
  | with_reducible refine s_pair ?_
  | with_reducible refine s_M1 ?_
  | with_reducible refine s_isStr ?_
  | with_reducible refine s_revS ?_
  | ((with_reducible refine s_revS1 ?_ ?_); (walk_at "sz"))
  | with_reducible refine s_fldE ?_
  | with_reducible refine s_propE ?_
  | ((with_reducible refine u_draw ?_ ?_ ?_ ?_); omega; omega; (walk_at "pool"); (intro _ _ _ _ _ _))
  | ((with_reducible refine u_pool ?_); (intro _ _ _ _ _))
  | with_reducible refine u_is_integer ?_
  | with_reducible refine s_isiII ?_
  | with_reducible refine s_isiIB ?_
  | with_reducible refine s_isiSS ?_
  | ((with_reducible apply u_fldRing); assumption; (walk_at "ring"))
  | ((with_reducible apply u_textP); (walk_at "ring"))
  | ((with_reducible apply u_strRing); (walk_at "ring"))
  | ((with_reducible apply u_eqRing); (walk_at "ring"); (walk_at "ring"))
  | ((with_reducible apply u_isiRing); assumption; (walk_at "ring"))
  | ((with_reducible refine u_is_word ?_ ?_); omega; (intro _ _))
  | ((with_reducible refine u_turnings ?_ ?_); omega; (intro _ _ _ _ _))
  | with_reducible refine s_makeE ?_
  | with_reducible refine s_methE ?_)
local macro_rules | `(tactic| walk_at "go") => `(tactic| repeat (walk_at "st"))
local macro_rules | `(tactic| walk_at "exs") => `(tactic| first | exact Ex.rfl | assumption | (apply Ex.snoc (by assumption); walk_at "exs") | (apply Ex.snocW (by assumption); walk_at "exs"))
local macro_rules | `(tactic| walk_at "kind") => `(tactic| first | assumption | (apply KindAt.ex0 (by assumption); (walk_at "kind")) | (apply KindAt.exP (by assumption) (by assumption); (walk_at "kind")))
local macro_rules | `(tactic| walk_at "st") => `(tactic| first
  | with_reducible refine s_lenSet ?_
  | with_reducible refine s_drop ?_
  | with_reducible refine s_bm ?_
  | with_reducible refine s_notN ?_
  | with_reducible refine s_isN ?_
  | ((with_reducible apply s_tyL); (walk_at "hp"))
  | with_reducible refine s_enumT ?_
  | ((with_reducible apply s_enumTA); (walk_at "sqt"))
  | with_reducible refine s_lc2 ?_)
local macro_rules | `(tactic| walk_at "lit") => `(tactic| exact lit_MRK)
def t_is_name (K : PySem.W.Frag) : TS :=
  (tSeq (tIfS (tOr (tNot (tB (tCB (rIsi K) (tCons (tVar 0) (tCons (tC (.ty "str")) tNil))))) (tNot (tTest (tChain rLeI rLeI (tC (.int 1)) (tCB (rLenV K) (tCons (tVar 0) tNil)) (tC (.int 8)))))) (tRet (tC (.bl false))) tNext)
  (tRet (tAndV (tOp rInSg (tOp rIxS (tVar 0) (tC (.int 0))) (tC (.str "abcdefghijklmnopqrstuvwxyz"))) (tCB (rAll K) (tCons (tLc (iStr (tVar 0)) (gName 1) tYes (tOp rInSg (tVar 1) (tC (.str "abcdefghijklmnopqrstuvwxyz0123456789"))) [1]) tNil)))))
def t_is_step (K : PySem.W.Frag) : TS :=
  (tSeq (tIfS (tOr (tNot (tB (tCall (sp_is_row K) [] E0 (tCons (tVar 0) (tCons (tC (.int 4)) tNil))))) (tOr (tNot (tB (tCall (sp_is_word K) [] E0 (tCons (tOp (rIxT K) (tVar 0) (tC (.int 1))) (tCons (tVar 1) tNil))))) (tTest (tOp rNe (tCB (rLenV K) (tCons (tOp (rIxT K) (tVar 0) (tC (.int 1))) tNil)) (tC (.int 1)))))) (tRet (tC (.bl false))) tNext)
  (tRet (tAndV (tOp (rIn K false) (tOp (rIxT K) (tVar 0) (tC (.int 0))) (tVar 2)) (tAndV (tOp (rIn K false) (tOp (rIxT K) (tVar 0) (tC (.int 2))) (tVar 2)) (tCall (sp_is_integer K) [] E0 (tCons (tOp (rIxT K) (tVar 0) (tC (.int 3))) tNil))))))
def t_is_turn (K : PySem.W.Frag) : TS :=
  (tRet (tAndV (tCall (sp_is_row K) [] E0 (tCons (tVar 0) (tCons (tC (.int 3)) tNil))) (tAndV (tOp (rIn K false) (tOp (rIxT K) (tVar 0) (tC (.int 0))) (tVar 1)) (tAndV (tOp (rIn K false) (tOp (rIxT K) (tVar 0) (tC (.int 1))) (tVar 1)) (tCall (sp_is_integer K) [] E0 (tCons (tOp (rIxT K) (tVar 0) (tC (.int 2))) tNil))))))
def t_check_states (K : PySem.W.Frag) : TS :=
  (tSeq (tIfS (tOr (tNot (tB (tCB (rIsi K) (tCons (tVar 0) (tCons (tC (.ty "tuple")) tNil))))) (tTest (tOp rEq (tCB (rLenV K) (tCons (tVar 0) tNil)) (tC (.int 0))))) tNever tNext)
  (tFor (iEnumT K (tCons (tVar 0) tNil)) (gTup K 2 (gCons (gName 1) (gCons (gName 2) gNil))) (tIfS (tOr (tTest (tOp rEq (tVar 1) (tC (.int 6)))) (tOr (tNot (tB (tCall (sp_is_name K) [] E0 (tCons (tVar 2) tNil)))) (tTest (tOp (rIn K false) (tVar 2) (tSl (rSlA K) (tVar 0) tNoPart (tPart (tVar 1))))))) tNever tNext)))
def t_check_rows (K : PySem.W.Frag) : TS :=
  (tSeq (tIfS (tNot (tB (tCB (rIsi K) (tCons (tVar 2) (tCons (tC (.ty "tuple")) tNil))))) tNever tNext)
  (tSeq (tAsg (tLst tNil) (gName 3))
  (tSeq (tFor (iEnumT K (tCons (tVar 2) tNil)) (gTup K 2 (gCons (gName 4) (gCons (gName 5) gNil))) (tSeq (tIfS (tOr (tNot (tB (tCall (sp_is_step K) [] E0 (tCons (tVar 5) (tCons (tVar 0) (tCons (tVar 1) tNil)))))) (tTest (tOp (rInD K) (tSl (rSlA K) (tVar 5) tNoPart (tPart (tC (.int 2)))) (tVar 3)))) tNever tNext)
  (tDrop (tBM K "list" rAppend (tVar 3) (tCons (tSl (rSlA K) (tVar 5) tNoPart (tPart (tC (.int 2)))) tNil)))))
  (tIfS (tTest (tOp rLtI (tCB (rLenV K) (tCons (tVar 2) tNil)) (tOp rMulI (tCB (rLenV K) (tCons (tVar 0) tNil)) (tCB (rLenV K) (tCons (tVar 1) tNil))))) tNever tNext))))
def t_check_turns (K : PySem.W.Frag) : TS :=
  (tSeq (tIfS (tNot (tB (tCB (rIsi K) (tCons (tVar 1) (tCons (tC (.ty "tuple")) tNil))))) tNever tNext)
  (tSeq (tAsg (tLst tNil) (gName 2))
  (tFor (iEnumT K (tCons (tVar 1) tNil)) (gTup K 2 (gCons (gName 3) (gCons (gName 4) gNil))) (tSeq (tIfS (tOr (tNot (tB (tCall (sp_is_turn K) [] E0 (tCons (tVar 4) (tCons (tVar 0) tNil))))) (tTest (tOp (rIn K false) (tOp (rIxT K) (tVar 4) (tC (.int 0))) (tVar 2)))) tNever tNext)
  (tDrop (tBM K "list" rAppend (tVar 2) (tCons (tOp (rIxT K) (tVar 4) (tC (.int 0))) tNil)))))))
def t_check_yes (K : PySem.W.Frag) : TS :=
  (tSeq (tIfS (tNot (tB (tCB (rIsi K) (tCons (tVar 1) (tCons (tC (.ty "tuple")) tNil))))) tNever tNext)
  (tFor (iEnumT K (tCons (tVar 1) tNil)) (gTup K 2 (gCons (gName 2) (gCons (gName 3) gNil))) (tIfS (tOr (tTest (tOp (rIn K true) (tVar 3) (tVar 0))) (tTest (tOp (rIn K false) (tVar 3) (tSl (rSlA K) (tVar 1) tNoPart (tPart (tVar 2)))))) tNever tNext)))
def t_place_of (K : PySem.W.Frag) : TS :=
  (tRet (tIf (tTest (tOp rLtI (tVar 0) (tVar 1))) (tVar 0) (tOp rAddI (tVar 2) (tOp rModI (tOp rSubI (tVar 0) (tVar 2)) (tOp rSubI (tVar 1) (tVar 2))))))
section
variable {K : PySem.W.Frag} {vs : List V} {H : Hp} {Q : VK} {E : XK}
theorem pure_is_name (h : sp_is_name K vs H Q E) : t_is_name K (E1 Q) (start ["value", "mark"] vs) H := by
  obtain ⟨l, rfl, ⟨h1, h2, ⟨c, r, hl, hc⟩, h3⟩, k⟩ := h
  show t_is_name K (E1 Q) [some (vS l), none] H
  unfold t_is_name
  walk_at "go"
  refine s_ixS (c := c) (by walk_at "sz") (atI_of (by omega) (by rw [hl]; rfl)) ?_
  walk_at "go"
  refine lc_mapS (by omega) (fun _ => true) (fun _ => .bl true) (fun d H1 C1 C0 hd e1 k1 k0 => ?_) (fun D H1 hD e1 hd => ?_)
  · refine s_yes ?_
    walk_at "go"
    rw [decide_eq_true (show d ∈ MRK from h3 d hd)]
    exact k1 _ Ex.rfl rfl
  walk_at "go"
  rw [show l.filter (fun _ => true) = l from List.filter_eq_self.mpr fun _ _ => rfl] at hd
  refine s_all (bs := l.map fun _ => true) (SqL.of (by rw [hd, List.map_map]; rfl)) ?_
  rw [show (l.map fun _ => true).all id = true by simp]
  exact k _ e1
theorem pure_is_step (h : sp_is_step K vs H Q E) : t_is_step K (E1 Q) (start ["row", "signs", "states"] vs) H := by
  obtain ⟨p, s, t, rfl, r, st, h1, h2, ha, hc, hb, k⟩ := h
  show t_is_step K (E1 Q) [some (.ref p), some (vS s), some (.ref t)] H
  unfold t_is_step
  walk_at "go"
  refine u_row h1 ?_
  walk_at "go"
  refine s_F rfl ?_
  walk_at "go"
  refine u_is_wordF (by simp) fun H1 e1 => ?_
  have hw : isWord [r.c] s = true := isWord_mk (by simp) (by simp) (by simpa using hc)
  rw [hw]
  walk_at "go"
  refine s_F (by simp) ?_
  walk_at "go"
  refine s_inT (e1.sqT (by simp) h2) ?_
  rw [decide_eq_true ha]
  walk_at "go"
  refine s_inT (e1.sqT (by simp) h2) ?_
  rw [decide_eq_true hb]
  walk_at "go"
  exact k _ e1
theorem pure_is_turn (h : sp_is_turn K vs H Q E) : t_is_turn K (E1 Q) (start ["turn", "states"] vs) H := by
  obtain ⟨p, t, rfl, r, st, h1, h2, ha, hb, k⟩ := h
  show t_is_turn K (E1 Q) [some (.ref p), some (.ref t)] H
  unfold t_is_turn
  walk_at "go"
  refine u_row h1 ?_
  walk_at "go"
  refine s_T rfl ?_
  walk_at "go"
  refine s_inT h2 ?_
  rw [decide_eq_true ha]
  walk_at "go"
  refine s_inT h2 ?_
  rw [decide_eq_true hb]
  walk_at "go"
  exact k _ Ex.rfl
theorem not_mem_take {α : Type} {ls : List α} (hn : ls.Nodup) {i : Nat} (hi : i < ls.length) : ls[i] ∉ ls.take i := fun z => by
  obtain ⟨j, hj, e⟩ := List.mem_take_iff_getElem.mp z
  exact absurd (List.getElem_inj hn |>.mp e) (by omega)
theorem pure_check_states (h : sp_check_states K vs H Q E) : t_check_states K (E1 Q) (start ["states", "index", "state"] vs) H := by
  obtain ⟨t, rfl, st, ht, ⟨g1, g2, g3, g4⟩, k⟩ := h
  show t_check_states K (E1 Q) [some (.ref t), none, none] H
  unfold t_check_states
  walk_at "go"
  refine s_isiK (Kd.tup ht) (b := true) (by decide +kernel) ?_
  walk_at "go"
  refine s_Fd (by rw [List.length_map]; omega) ?_
  walk_at "go"
  refine for_run walk_enumT (fun i σ H1 => ∃ x1 x2, σ = [some (.ref t), x1, x2] ∧ Ex [] H H1) ⟨_, _, rfl, Ex.rfl⟩ (fun i σ H1 _ ⟨_, _, _, e⟩ => e.sqT (by simp) ht) ?_ ?_
  · rintro i x σ H1 H2 hi ⟨x2, x3, rfl, e1⟩ ⟨T, y, z, rfl, hT, rfl, hy, hz⟩
    rw [List.length_map] at hi
    have hz : (st.map vS)[i]? = some z := hz
    rw [List.getElem?_map, List.getElem?_eq_getElem hi] at hz
    cases hz
    cases hy
    have e2 : Ex [] H1 (upd H1 T (.tup [.int (i : Nat), vS st[i]])) := Ex.new hT
    have h2 : (upd H1 T (.tup [.int (i : Nat), vS st[i]])) T = some (.tup [.int (i : Nat), vS st[i]]) := upd_same
    revert e2 h2
    generalize upd H1 T (.tup [.int (i : Nat), vS st[i]]) = H3
    intro e2 h2
    walk_at "go"
    refine u_is_name (g4 _ (List.getElem_mem hi)) fun H4 e4 => ?_
    walk_at "go"
    refine s_slA (xs := st.map vS) (by walk_at "sqt") fun q H5 e5 hs5 => ?_
    walk_at "go"
    rw [show cutV (st.map vS) none (some (i : Int)) = (st.take i).map vS by rw [cutV_to (by omega)]; simp [List.map_take]] at hs5
    refine s_inT hs5 ?_
    rw [decide_eq_false (not_mem_take g3 hi)]
    walk_at "go"
    exact ⟨_, _, rfl, (((e1.trans e2).trans e4).trans e5)⟩
  · rintro σ H1 ⟨x2, x3, rfl, e1⟩
    exact k _ e1
theorem pure_check_yes (h : sp_check_yes K vs H Q E) : t_check_yes K (E1 Q) (start ["states", "yes", "index", "state"] vs) H := by
  obtain ⟨t, u, rfl, st, ys, ht, hu, ⟨g1, g2⟩, k⟩ := h
  show t_check_yes K (E1 Q) [some (.ref t), some (.ref u), none, none] H
  unfold t_check_yes
  walk_at "go"
  refine s_isiK (Kd.tup hu) (b := true) (by decide +kernel) ?_
  walk_at "go"
  refine for_run walk_enumT (fun i σ H1 => ∃ x1 x2, σ = [some (.ref t), some (.ref u), x1, x2] ∧ Ex [] H H1) ⟨_, _, rfl, Ex.rfl⟩ (fun i σ H1 _ ⟨_, _, _, e⟩ => e.sqT (by simp) hu) ?_ ?_
  · rintro i x σ H1 H2 hi ⟨x2, x3, rfl, e1⟩ ⟨T, y, z, rfl, hT, rfl, hy, hz⟩
    rw [List.length_map] at hi
    have hz : (ys.map vS)[i]? = some z := hz
    rw [List.getElem?_map, List.getElem?_eq_getElem hi] at hz
    cases hz
    cases hy
    have e2 : Ex [] H1 (upd H1 T (.tup [.int (i : Nat), vS ys[i]])) := Ex.new hT
    have h2 : (upd H1 T (.tup [.int (i : Nat), vS ys[i]])) T = some (.tup [.int (i : Nat), vS ys[i]]) := upd_same
    revert e2 h2
    generalize upd H1 T (.tup [.int (i : Nat), vS ys[i]]) = H3
    intro e2 h2
    walk_at "go"
    refine s_notInT (ls := st) (by walk_at "sqt") ?_
    rw [decide_eq_true (g1 _ (List.getElem_mem hi))]
    walk_at "go"
    refine s_slA (xs := ys.map vS) (by walk_at "sqt") fun q H5 e5 hs5 => ?_
    walk_at "go"
    rw [show cutV (ys.map vS) none (some (i : Int)) = (ys.take i).map vS by rw [cutV_to (by omega)]; simp [List.map_take]] at hs5
    refine s_inT hs5 ?_
    rw [decide_eq_false (not_mem_take g2 hi)]
    walk_at "go"
    exact ⟨_, _, rfl, ((e1.trans e2).trans e5)⟩
  · rintro σ H1 ⟨x2, x3, rfl, e1⟩
    exact k _ e1
theorem pure_check_turns (h : sp_check_turns K vs H Q E) : t_check_turns K (E1 Q) (start ["states", "turns", "seen", "index", "turn"] vs) H := by
  obtain ⟨t, u, rfl, st, ts, ht, hst, hu, ⟨g1, g2⟩, k⟩ := h
  obtain ⟨xs, hxs, hxl, hxp⟩ := hu
  rw [List.length_map] at hxl
  have htl : ts.length ≤ 6 := by
    have := nodup_le _ st g2 fun a ha => by obtain ⟨t, h1, rfl⟩ := List.mem_map.mp ha; exact (g1 t h1).1
    rw [List.length_map] at this
    exact Nat.le_trans this hst.2.1
  show t_check_turns K (E1 Q) [some (.ref t), some (.ref u), none, none, none] H
  unfold t_check_turns
  walk_at "go"
  refine s_isiK (Kd.tup hxs) (b := true) (by decide +kernel) ?_
  walk_at "go"
  rename_i q H0 nq e0 h0
  refine for_run walk_enumT (fun i σ H1 => ∃ x1 x2, σ = [some (.ref t), some (.ref u), some (.ref q), x1, x2] ∧ Ex [] H H1 ∧ H1 q = some (.lst (((ts.take i).map fun t => t.a).map vS))) ⟨_, _, rfl, e0, by simpa using h0⟩ (fun i σ H1 _ ⟨_, _, _, e, _⟩ => e.sqT (by simp) hxs) ?_ ?_
  · rintro i x σ H1 H2 hi ⟨x2, x3, rfl, e1, h1⟩ ⟨T, y, z, rfl, hT, rfl, hy, hz⟩
    have hit : i < ts.length := by omega
    have hz : xs[i]? = some z := hz
    obtain ⟨p, rfl, hp⟩ := hxp i z (tnV ts[i]) hz (by rw [List.getElem?_map, List.getElem?_eq_getElem hit]; rfl)
    cases hy
    have hqT : q ≠ T := fun z => by rw [← z, h1] at hT; cases hT
    have e2 : Ex [] H1 (upd H1 T (.tup [.int (i : Nat), .ref p])) := Ex.new hT
    have h2 : (upd H1 T (.tup [.int (i : Nat), .ref p])) T = some (.tup [.int (i : Nat), .ref p]) := upd_same
    revert e2 h2
    generalize upd H1 T (.tup [.int (i : Nat), .ref p]) = H3
    intro e2 h2
    have hg := g1 _ (List.getElem_mem hit)
    walk_at "go"
    refine u_is_turn (r := ts[i]) (st := st) ((e1.trans e2).sqT (by simp) hp) ((e1.trans e2).sqT (by simp) ht) hg.1 hg.2 fun H4 e4 => ?_
    walk_at "go"
    refine s_inL (SqL.of ((e2.trans e4).get0 h1)) ?_
    rw [decide_eq_false (show ts[i].a ∉ (ts.take i).map fun t => t.a from fun z => by
      rw [List.map_take] at z
      have := not_mem_take g2 (i := i) (by rw [List.length_map]; exact hit)
      rw [List.getElem_map] at this
      exact this z)]
    walk_at "go"
    refine s_append (xs := ((ts.take i).map fun t => t.a).map vS) ((e2.trans e4).get0 h1) (by simp only [List.length_map, List.length_take]; exact Nat.lt_of_le_of_lt (Nat.min_le_left _ _) (Nat.lt_of_lt_of_le hit (Nat.le_trans htl (by decide)))) fun H5 e5 h5 => ?_
    refine ⟨_, _, rfl, Ex.drop nq ((e1.trans e2).trans e4) e5, ?_⟩
    rw [h5, take1 (fun t => t.a) hit, List.map_append]
    rfl
  · rintro σ H1 ⟨x2, x3, rfl, e1, _⟩
    exact k _ e1
def dPr (z : List Nat × Nat) : PyData := .tuple [dS z.1, dS [z.2]]
theorem dPr_eqv (z w : List Nat × Nat) : PyData.eqv (dPr z) (dPr w) = decide (z = w) := by
  obtain ⟨a, c⟩ := z
  obtain ⟨b, d⟩ := w
  have h := eqv_strs [a, [c]] [b, [d]]
  show PyData.eqv (.tuple ([a, [c]].map dS)) (.tuple ([b, [d]].map dS)) = _
  rw [PyData.eqv, h]
  by_cases h1 : a = b <;> by_cases h2 : c = d <;> simp [h1, h2]
theorem dPr_lay {z : List Nat × Nat} (h : plain z.1 ∧ z.2 < 55296) : PyData.canLay0 (dPr z) = true := by
  unfold dPr
  rw [PyData.canLay0]
  exact lay_all fun e he => by
    rcases List.mem_cons.mp he with rfl | he
    · exact lay_dS h.1
    · rw [List.mem_singleton.mp he]; exact lay_dS (by simpa [plain] using h.2)
theorem dPr_dep (z : List Nat × Nat) : PyData.depth (dPr z) ≤ 1 := by
  unfold dPr
  rw [PyData.depth]
  have : PyData.depthAll [dS z.1, dS [z.2]] ≤ 0 := dep_all fun e he => by
    rcases List.mem_cons.mp he with rfl | he
    · rw [dep_dS]; exact Nat.le_refl _
    · rw [List.mem_singleton.mp he, dep_dS]; exact Nat.le_refl _
  omega
theorem any_pr (zs : List (List Nat × Nat)) (w : List Nat × Nat) : ((zs.map dPr).any fun z => PyData.eqv z (dPr w)) = decide (w ∈ zs) := by
  induction zs with
  | nil => simp
  | cons z zs ih =>
    rw [List.map_cons, List.any_cons, ih, dPr_eqv]
    by_cases h1 : z = w
    · subst h1; simp
    · by_cases h2 : w ∈ zs <;> simp [h1, h2, Ne.symm h1]
def PrsAt (K : PySem.W.Frag) (H : Hp) (q : Addr) (zs : List (List Nat × Nat)) : Prop := ∃ xs, H q = some (.lst xs) ∧ xs.length = zs.length ∧ ∀ (i : Nat) x z, xs[i]? = some x → zs[i]? = some z → ∃ p, x = .ref p ∧ SqT K H p [vS z.1, vS [z.2]]
theorem s_inPr {q p : Addr} {zs : List (List Nat × Nat)} {w : List Nat × Nat} (h : PrsAt K H q zs) (hp : SqT K H p [vS w.1, vS [w.2]]) (hz : ∀ z ∈ zs, plain z.1 ∧ z.2 < 55296) (hw : plain w.1 ∧ w.2 < 55296) (k : Q (.bl (decide (w ∈ zs))) H) : rInD K (.ref p) (.ref q) H Q := by
  obtain ⟨xs, h1, h2, h3⟩ := h
  refine ⟨dPr w, zs.map dPr, .tup hp (.cons (.str _) (.cons (.str _) .nil)), .lst (SqL.of h1) (dpAll_of _ _ (by simp [h2]) fun i x e hx he => ?_), ?_, ?_, ?_⟩
  · rw [List.getElem?_map] at he
    obtain ⟨z, hz', rfl⟩ := Option.map_eq_some_iff.mp he
    obtain ⟨p', rfl, hp'⟩ := h3 i x z hx hz'
    exact .tup hp' (.cons (.str _) (.cons (.str _) .nil))
  · unfold SeqAt.shaped
    have := dPr_dep w
    exact Bool.and_eq_true_iff.mpr ⟨dPr_lay hw, decide_eq_true (by omega)⟩
  · unfold SeqAt.shaped
    refine Bool.and_eq_true_iff.mpr ⟨?_, decide_eq_true ?_⟩
    · rw [PyData.canLay0]
      exact lay_all fun e he => by obtain ⟨z, h, rfl⟩ := List.mem_map.mp he; exact dPr_lay (hz z h)
    · rw [PyData.depth]
      have : PyData.depthAll (zs.map dPr) ≤ 1 := dep_all fun e he => by obtain ⟨z, h, rfl⟩ := List.mem_map.mp he; exact dPr_dep z
      omega
  · rw [any_pr]; exact k
theorem sqT_lst {q t : Addr} {xs ys : List V} {H' : Hp} (hq : H q = some (.lst xs)) (e : Ex [q] H H') (h : SqT K H t ys) : SqT K H' t ys := by
  rcases h with (h | ⟨o, h⟩) | h
  · exact e.sqT (by simp only [List.mem_singleton]; intro w; rw [w, hq] at h; cases h) (.inl (.inl h))
  · exact e.sqT (by simp only [List.mem_singleton]; intro w; rw [w, hq] at h; cases h) (.inl (.inr ⟨o, h⟩))
  · exact .inr h
theorem PrsAt.ex0 {q : Addr} {zs : List (List Nat × Nat)} {H' : Hp} (e : Ex [] H H') (h : PrsAt K H q zs) : PrsAt K H' q zs := by
  obtain ⟨xs, h1, h2, h3⟩ := h
  refine ⟨xs, e.get0 h1, h2, fun i x z hx hz => ?_⟩
  obtain ⟨p, h4, h5⟩ := h3 i x z hx hz
  exact ⟨p, h4, e.sqT (by simp) h5⟩
theorem s_appPr {q p : Addr} {zs : List (List Nat × Nat)} {w : List Nat × Nat} (h : PrsAt K H q zs) (hp : SqT K H p [vS w.1, vS [w.2]]) (hl : zs.length ≤ 1000) (k : ∀ H2, Ex [q] H H2 → PrsAt K H2 q (zs ++ [w]) → Q .non H2) : rAppend (.ref q) [.ref p] H Q := by
  obtain ⟨xs, h1, h2, h3⟩ := h
  refine s_append h1 (by rw [h2]; exact Nat.lt_of_le_of_lt hl (by decide)) fun H2 e2 hh => k H2 e2 ⟨_, hh, by simp [h2], fun i x z hx hz => ?_⟩
  by_cases hi : i < xs.length
  · rw [List.getElem?_append_left hi] at hx
    rw [List.getElem?_append_left (by omega)] at hz
    obtain ⟨p', h4, h5⟩ := h3 i x z hx hz
    exact ⟨p', h4, sqT_lst h1 e2 h5⟩
  · rw [List.getElem?_append_right (by omega)] at hx hz
    have h0 : i - xs.length = 0 := by
      have := (List.getElem?_eq_some_iff.mp hx).1
      simp at this
      omega
    rw [show i - zs.length = 0 by omega] at hz
    rw [h0] at hx
    cases hx
    cases hz
    exact ⟨p, rfl, sqT_lst h1 e2 hp⟩
theorem pure_check_rows (h : sp_check_rows K vs H Q E) : t_check_rows K (E1 Q) (start ["signs", "states", "rows", "seen", "index", "row"] vs) H := by
  obtain ⟨s, t, u, rfl, st, rs, hs, ht, hst, hu, ⟨g1, g2, g3⟩, k⟩ := h
  obtain ⟨xs, hxs, hxl, hxp⟩ := hu
  rw [List.length_map] at hxl
  have h4 := hs.2.1
  have h6 := hst.2.1
  have hrl : rs.length ≤ 24 := by rw [g3]; exact Nat.mul_le_mul h4 h6
  have hpl : ∀ r ∈ rs, plain r.a ∧ r.c < 55296 := fun r hr => ⟨name_plain (hst.2.2.2 _ (g1 r hr).1), let_plain (isWord_in hs.1 _ (g1 r hr).2.1)⟩
  show t_check_rows K (E1 Q) [some (vS s), some (.ref t), some (.ref u), none, none, none] H
  unfold t_check_rows
  walk_at "go"
  refine s_isiK (Kd.tup hxs) (b := true) (by decide +kernel) ?_
  walk_at "go"
  rename_i q H0 nq e0 h0
  refine for_run walk_enumT (fun i σ H1 => ∃ x1 x2, σ = [some (vS s), some (.ref t), some (.ref u), some (.ref q), x1, x2] ∧ Ex [] H H1 ∧ PrsAt K H1 q ((rs.take i).map fun r => (r.a, r.c))) ⟨_, _, rfl, e0, ⟨[], h0, rfl, by simp⟩⟩ (fun i σ H1 _ ⟨_, _, _, e, _⟩ => e.sqT (by simp) hxs) ?_ ?_
  · rintro i x σ H1 H2 hi ⟨x2, x3, rfl, e1, h1⟩ ⟨T, y, z, rfl, hT, rfl, hy, hz⟩
    have hit : i < rs.length := by omega
    have hz : xs[i]? = some z := hz
    obtain ⟨p, rfl, hp⟩ := hxp i z (rwV rs[i]) hz (by rw [List.getElem?_map, List.getElem?_eq_getElem hit]; rfl)
    cases hy
    have e2 : Ex [] H1 (upd H1 T (.tup [.int (i : Nat), .ref p])) := Ex.new hT
    have h2 : (upd H1 T (.tup [.int (i : Nat), .ref p])) T = some (.tup [.int (i : Nat), .ref p]) := upd_same
    revert e2 h2
    generalize upd H1 T (.tup [.int (i : Nat), .ref p]) = H3
    intro e2 h2
    have hg := g1 _ (List.getElem_mem hit)
    have hc2 : cutV (rwV rs[i]) none (some 2) = [vS rs[i].a, vS [rs[i].c]] := by rw [cutV_to (by omega)]; rfl
    walk_at "go"
    refine u_is_step (r := rs[i]) (st := st) ((e1.trans e2).sqT (by simp) hp) ((e1.trans e2).sqT (by simp) ht) hg.1 hg.2.1 hg.2.2 fun H4 e4 => ?_
    walk_at "go"
    refine s_slA (xs := rwV rs[i]) (((e1.trans e2).trans e4).sqT (by simp) hp) fun q5 H5 e5 hs5 => ?_
    rw [hc2] at hs5
    walk_at "go"
    refine s_inPr (w := (rs[i].a, rs[i].c)) (((h1.ex0 e2).ex0 e4).ex0 e5) hs5 (fun z hz => ?_) (hpl _ (List.getElem_mem hit)) ?_
    · obtain ⟨r, hr, rfl⟩ := List.mem_map.mp hz
      exact hpl r (List.mem_of_mem_take hr)
    rw [decide_eq_false (show (rs[i].a, rs[i].c) ∉ (rs.take i).map fun r => (r.a, r.c) from fun z => by
      rw [List.map_take] at z
      have := not_mem_take g2 (i := i) (by rw [List.length_map]; exact hit)
      rw [List.getElem_map] at this
      exact this z)]
    obtain ⟨xq, hxq, _⟩ := id (((h1.ex0 e2).ex0 e4).ex0 e5)
    walk_at "go"
    refine s_slA (xs := rwV rs[i]) ((((e1.trans e2).trans e4).trans e5).sqT (by simp) hp) fun q6 H6 e6 hs6 => ?_
    rw [hc2] at hs6
    walk_at "go"
    refine s_appPr (w := (rs[i].a, rs[i].c)) ((((h1.ex0 e2).ex0 e4).ex0 e5).ex0 e6) hs6 (by rw [List.length_map, List.length_take]; omega) fun H7 e7 h7 => ?_
    refine ⟨_, _, rfl, Ex.drop nq ((((e1.trans e2).trans e4).trans e5).trans e6) e7, ?_⟩
    rw [take1 _ hit]
    exact h7
  · rintro σ H1 ⟨x2, x3, rfl, e1, _⟩
    walk_at "go"
    refine s_Fd (by rw [List.length_map, hxl, g3, Int.natCast_mul]; exact Int.lt_irrefl _) ?_
    exact k _ e1
def sp_place_of (K : PySem.W.Frag) : Sp := fun vs H Q _ => ∃ i n b : Int, vs = [.int i, .int n, .int b] ∧ b < n ∧ Q (.int (if i < n then i else b + (i - b) % (n - b))) H
theorem pure_place_of (h : sp_place_of K vs H Q E) : t_place_of K (E1 Q) (start ["at", "size", "begin"] vs) H := by
  obtain ⟨i, n, b, rfl, hb, k⟩ := h
  show t_place_of K (E1 Q) [some (.int i), some (.int n), some (.int b)] H
  unfold t_place_of
  walk_at "go"
  by_cases h : i < n
  · refine s_Td h ?_
    walk_at "go"
    rw [if_pos h] at k
    exact k
  · refine s_Fd h ?_
    walk_at "go"
    rw [if_neg h] at k
    exact k
end
end WB
namespace WB
open PySem PySem.Spec PyProof.Rows L2
def kS (l : List Nat) : Key := .inr (S l)
theorem kS_inj {a b : List Nat} (h : kS a = kS b) : a = b := S_inj (Sum.inr.inj h)
def TabOk (K : PySem.W.Frag) (H : Hp) (kt : List (List Key × V)) (M : LM) : Prop := ∀ a ∈ M.st, ∀ c ∈ M.ab, ∃ p, valV kt [kS a, kS [c]] = some (.ref p) ∧ SqT K H p [vS (M.tb a c).1, .int (M.tb a c).2]
def EndOk (K : PySem.W.Frag) (H : Hp) (ke : List (Key × V)) (M : LM) : Prop := ∀ a ∈ M.st, ∃ p, valV ke (kS a) = some (.ref p) ∧ SqT K H p [vS (M.en a).1, .int (M.en a).2]
def LoopAt (K : PySem.W.Frag) (H : Hp) (x : Addr) (M : LM) : Prop := ∃ dx o tt te tm kt ke, H x = some (.ins (He.ga K "Loop") dx [("letters", vS M.ab), ("order", .ref o), ("table", .ref tt), ("ending", .ref te), ("marked", .ref tm)]) ∧
  SqT K H o (M.st.map vS) ∧ H tt = some (.dT kt) ∧ TabOk K H kt M ∧ H te = some (.dK ke) ∧ EndOk K H ke M ∧ SqT K H tm (M.ok.map vS)
structure LoopK (K : PySem.W.Frag) : Prop where
  cl : Cls K (He.ga K "Loop")
  n1 : NoAttr K (He.ga K "Loop") "letters"
  n2 : NoAttr K (He.ga K "Loop") "order"
  n3 : NoAttr K (He.ga K "Loop") "table"
  n4 : NoAttr K (He.ga K "Loop") "ending"
  n5 : NoAttr K (He.ga K "Loop") "marked"
section
variable {K : PySem.W.Frag} {H H' : Hp} {Q : VK} {E : XK} {x a : Addr} {M : LM}
theorem TabOk.ex0 {kt : List (List Key × V)} (e : Ex [] H H') (h : TabOk K H kt M) : TabOk K H' kt M := fun a ha c hc => by
  obtain ⟨p, h1, h2⟩ := h a ha c hc
  exact ⟨p, h1, e.sqT (by simp) h2⟩
theorem EndOk.ex0 {ke : List (Key × V)} (e : Ex [] H H') (h : EndOk K H ke M) : EndOk K H' ke M := fun a ha => by
  obtain ⟨p, h1, h2⟩ := h a ha
  exact ⟨p, h1, e.sqT (by simp) h2⟩
theorem TabOk.exP {kt : List (List Key × V)} (hp : PoolAt H a) (e : Ex [a] H H') (h : TabOk K H kt M) : TabOk K H' kt M := fun b hb c hc => by
  obtain ⟨p, h1, h2⟩ := h b hb c hc
  exact ⟨p, h1, sqT_pool hp e h2⟩
theorem EndOk.exP {ke : List (Key × V)} (hp : PoolAt H a) (e : Ex [a] H H') (h : EndOk K H ke M) : EndOk K H' ke M := fun b hb => by
  obtain ⟨p, h1, h2⟩ := h b hb
  exact ⟨p, h1, sqT_pool hp e h2⟩
theorem LoopAt.ex0 (e : Ex [] H H') (h : LoopAt K H x M) : LoopAt K H' x M := by
  obtain ⟨dx, o, tt, te, tm, kt, ke, h1, h2, h3, h4, h5, h6, h7⟩ := h
  exact ⟨dx, o, tt, te, tm, kt, ke, e.get0 h1, e.sqT (by simp) h2, e.get0 h3, h4.ex0 e, e.get0 h5, h6.ex0 e, e.sqT (by simp) h7⟩
theorem LoopAt.exP (hp : PoolAt H a) (e : Ex [a] H H') (h : LoopAt K H x M) : LoopAt K H' x M := by
  obtain ⟨dx, o, tt, te, tm, kt, ke, h1, h2, h3, h4, h5, h6, h7⟩ := h
  have hq := hp
  obtain ⟨y1, y2, y3, hq⟩ := hq
  exact ⟨dx, o, tt, te, tm, kt, ke, e.get (by simp only [List.mem_singleton]; intro w; rw [w, hq] at h1; cases h1) h1, sqT_pool hp e h2, e.get (by simp only [List.mem_singleton]; intro w; rw [w, hq] at h3; cases h3) h3, h4.exP hp e, e.get (by simp only [List.mem_singleton]; intro w; rw [w, hq] at h5; cases h5) h5, h6.exP hp e, sqT_pool hp e h7⟩
def DcTW (J : It) (g : TG) (tt : TT) (tk tv : TE) (vs : List Nat) (σ : St) (H1 : Hp) (Q : VK) : Prop := ∀ D, H1 D = none → ∃ W : Nat → Nat → Hp → Prop, (∃ m, W 0 m (upd H1 D (.dT []))) ∧ ∀ i m H, W i m H →
  (J.stop i H ∧ Q (.ref D) H) ∨ (J.go i H ∧ ∃ Nx : Hp → Prop, (∀ H', Nx H' → ∃ m', m' < m ∧ W (i + 1) m' H') ∧ ∀ x H', J.yld i H x H' → g x (wipe σ vs) H' fun σ2 H2 => wipe σ2 vs = wipe σ vs ∧ tt σ2 H2 fun c H3 =>
    if c = true then tk σ2 H3 fun y H4 => tv σ2 H4 fun z H5 => ∃ kvs k b, y = .ref b ∧ H5 b = some (.tup (k.map kV)) ∧ H5 D = some (.dT kvs) ∧ kvs.length < sizeLine ∧ Nx (upd H5 D (.dT (putK kvs k z))) else Nx H3)
theorem s_dcT {wi : TI} {g : TG} {tt : TT} {tk tv : TE} {vs : List Nat} {σ : St} (k : wi σ H fun J H1 => DcTW J g tt tk tv vs σ H1 Q) : tDcT wi g tt tk tv vs σ H Q := k
def DcW (J : It) (g : TG) (tt : TT) (tk tv : TE) (vs : List Nat) (σ : St) (H1 : Hp) (Q : VK) : Prop := ∀ D, H1 D = none → ∃ W : Nat → Nat → Hp → Prop, (∃ m, W 0 m (upd H1 D (.dK []))) ∧ ∀ i m H, W i m H →
  (J.stop i H ∧ Q (.ref D) H) ∨ (J.go i H ∧ ∃ Nx : Hp → Prop, (∀ H', Nx H' → ∃ m', m' < m ∧ W (i + 1) m' H') ∧ ∀ x H', J.yld i H x H' → g x (wipe σ vs) H' fun σ2 H2 => wipe σ2 vs = wipe σ vs ∧ tt σ2 H2 fun c H3 =>
    if c = true then tk σ2 H3 fun y H4 => tv σ2 H4 fun z H5 => ∃ kvs k, y = kV k ∧ H5 D = some (.dK kvs) ∧ kvs.length < sizeLine ∧ Nx (upd H5 D (.dK (putK kvs k z))) else Nx H3)
theorem s_dc {wi : TI} {g : TG} {tt : TT} {tk tv : TE} {vs : List Nat} {σ : St} (k : wi σ H fun J H1 => DcW J g tt tk tv vs σ H1 Q) : tDc wi g tt tk tv vs σ H Q := k
theorem dcT_it {J : It} {n : Nat} {G : Hp → Prop} {Y : Nat → Hp → V → Hp → Prop} (w : Walk J n G Y) {g : TG} {tt : TT} {tk tv : TE} {vs : List Nat} {σ : St} (Pv : Addr → Nat → Hp → Prop) (h0 : ∀ D, H D = none → Pv D 0 (upd H D (.dT []))) (hG : ∀ D i H1, i ≤ n → Pv D i H1 → G H1)
    (hs : ∀ D i x H1 H2, i < n → Pv D i H1 → Y i H1 x H2 → g x (wipe σ vs) H2 fun σ2 H2 => wipe σ2 vs = wipe σ vs ∧ tt σ2 H2 fun c H3 =>
      if c = true then tk σ2 H3 fun y H4 => tv σ2 H4 fun z H5 => ∃ kvs k b, y = .ref b ∧ H5 b = some (.tup (k.map kV)) ∧ H5 D = some (.dT kvs) ∧ kvs.length < sizeLine ∧ Pv D (i + 1) (upd H5 D (.dT (putK kvs k z))) else Pv D (i + 1) H3)
    (hd : ∀ D H1, H D = none → Pv D n H1 → Q (.ref D) H1) : DcTW J g tt tk tv vs σ H Q := by
  intro D hD
  refine ⟨fun i m H => m = n - i ∧ i ≤ n ∧ Pv D i H, ⟨n, by simp, Nat.zero_le _, h0 D hD⟩, ?_⟩
  rintro i m H1 ⟨rfl, hi, p⟩
  rcases Nat.lt_or_ge i n with h | h
  · exact .inr ⟨w.goes i H1 h (hG D i H1 hi p), fun H' => Pv D (i + 1) H', fun H' p' => ⟨n - (i + 1), by omega, rfl, by omega, p'⟩, fun x H' y => hs D i x H1 H' h p (w.yields i H1 x H' h (hG D i H1 hi p) y)⟩
  · have : i = n := by omega
    subst this
    exact .inl ⟨w.stops H1 (hG D _ H1 hi p), hd D H1 hD p⟩
theorem dc_it {J : It} {n : Nat} {G : Hp → Prop} {Y : Nat → Hp → V → Hp → Prop} (w : Walk J n G Y) {g : TG} {tt : TT} {tk tv : TE} {vs : List Nat} {σ : St} (Pv : Addr → Nat → Hp → Prop) (h0 : ∀ D, H D = none → Pv D 0 (upd H D (.dK []))) (hG : ∀ D i H1, i ≤ n → Pv D i H1 → G H1)
    (hs : ∀ D i x H1 H2, i < n → Pv D i H1 → Y i H1 x H2 → g x (wipe σ vs) H2 fun σ2 H2 => wipe σ2 vs = wipe σ vs ∧ tt σ2 H2 fun c H3 =>
      if c = true then tk σ2 H3 fun y H4 => tv σ2 H4 fun z H5 => ∃ kvs k, y = kV k ∧ H5 D = some (.dK kvs) ∧ kvs.length < sizeLine ∧ Pv D (i + 1) (upd H5 D (.dK (putK kvs k z))) else Pv D (i + 1) H3)
    (hd : ∀ D H1, H D = none → Pv D n H1 → Q (.ref D) H1) : DcW J g tt tk tv vs σ H Q := by
  intro D hD
  refine ⟨fun i m H => m = n - i ∧ i ≤ n ∧ Pv D i H, ⟨n, by simp, Nat.zero_le _, h0 D hD⟩, ?_⟩
  rintro i m H1 ⟨rfl, hi, p⟩
  rcases Nat.lt_or_ge i n with h | h
  · exact .inr ⟨w.goes i H1 h (hG D i H1 hi p), fun H' => Pv D (i + 1) H', fun H' p' => ⟨n - (i + 1), by omega, rfl, by omega, p'⟩, fun x H' y => hs D i x H1 H' h p (w.yields i H1 x H' h (hG D i H1 hi p) y)⟩
  · have : i = n := by omega
    subst this
    exact .inl ⟨w.stops H1 (hG D _ H1 hi p), hd D H1 hD p⟩
def tbOf (rs : List Rw) (a : List Nat) (c : Nat) : List Nat × Int := ((rs.find? fun r => decide (r.a = a ∧ r.c = c)).map fun r => (r.b, r.n)).getD (a, 0)
def enOf (ts : List Tn) (a : List Nat) : List Nat × Int := ((ts.find? fun t => decide (t.a = a)).map fun t => (t.b, t.n)).getD (a, 0)
def mkLM (s : List Nat) (st : List (List Nat)) (rs : List Rw) (ts : List Tn) (ys : List (List Nat)) : LM := ⟨sgn s, st, tbOf rs, enOf ts, st.filter fun a => decide (a ∈ ys)⟩
def sp_Loop_init (K : PySem.W.Frag) : Sp := fun vs H Q _ => ∃ (x : Addr) (s : List Nat) (t u v w dx : Addr), vs = [.ref x, vS s, .ref t, .ref u, .ref v, .ref w] ∧ H x = some (.ins (He.ga K "Loop") dx []) ∧
  ∃ (st : List (List Nat)) (rs : List Rw) (ts : List Tn) (ys : List (List Nat)), goodS s ∧ SqT K H t (st.map vS) ∧ goodSt st ∧ TupsAt K H u (rs.map rwV) ∧ goodRws s st rs ∧ TupsAt K H v (ts.map tnV) ∧ goodTns st ts ∧ SqT K H w (ys.map vS) ∧ goodYes st ys ∧
  ∀ H', Ex [x] H H' → LoopAt K H' x (mkLM s st rs ts ys) → Q .non H'
end
end WB
namespace WB
open PySem PySem.Spec PyProof.Rows L2
local macro_rules | `(tactic| walk_at "lit") => `(tactic| first | exact lit_abc | exact lit_empty)
local macro_rules | `(tactic| walk_at "nm") => `(tactic| focus first | exact List.not_mem_nil | (simp only [List.mem_singleton]; first | assumption | (exact Ne.symm (by assumption)) | (intro hz; subst hz; simp_all; done)))
local macro_rules | `(tactic| walk_at "hp") => `(tactic| first | assumption | (apply Ex.get0 (by assumption); walk_at "hp") | (apply Ex.get (by assumption); (walk_at "nm"); (walk_at "hp")))
local macro_rules | `(tactic| walk_at "sq") => `(tactic| first | assumption | (apply SqL.of; walk_at "hp") | (apply Ex.sqL (by assumption); (walk_at "nm"); (walk_at "sq")))
local macro_rules | `(tactic| walk_at "sqt") => `(tactic| first | assumption | (apply SqT.of; walk_at "hp") | (apply Ex.sqT (by assumption); (walk_at "nm"); (walk_at "sqt")))
local macro_rules | `(tactic| walk_at "sz") => `(tactic| focus ((with_reducible refine Nat.le_trans (m := 100000) ?_ (by decide)); first | omega | (simp; done) | (simp; omega)))
local macro_rules | `(tactic| walk_at "mul") => `(tactic| first | exact Or.inr ⟨by omega, by omega⟩ | exact Or.inl ⟨by omega, by omega⟩)
local macro_rules | `(tactic| walk_at "pool") => `(tactic| first | assumption | (apply PoolAt.ex (by assumption); (walk_at "nm"); (walk_at "pool")))
local macro_rules | `(tactic| walk_at "ring") => `(tactic| first | assumption | (apply RingAt.ex (by assumption); (walk_at "nm"); (walk_at "ring")))
local macro_rules | `(tactic| walk_at "st") => `(tactic| first
  | with_reducible refine s_seq ?_
  | with_reducible refine s_asg ?_
  | with_reducible refine s_gName ?_
  | with_reducible refine s_ret ?_
  | with_reducible refine s_ifS ?_
  | with_reducible refine s_next ?_
  | with_reducible refine s_op ?_
  | ((with_reducible apply s_var); exact rfl)
  | ((with_reducible apply s_cS); (walk_at "lit"))
  | with_reducible refine s_c ?_
  | with_reducible refine s_cb ?_
  | with_reducible refine s_cons ?_
  | with_reducible refine s_nil ?_
  | with_reducible refine s_un ?_
  | with_reducible refine s_call ?_
  | with_reducible refine s_test ?_
  | with_reducible refine s_tB ?_
  | with_reducible refine s_blQ ?_
  | with_reducible refine s_not ?_
  | with_reducible refine s_and ?_
  | with_reducible refine s_or ?_
  | with_reducible refine s_andV ?_
  | with_reducible refine s_orV ?_
  | with_reducible refine s_notV ?_
  | with_reducible refine s_ifE ?_
  | with_reducible refine s_chain ?_
  | ((with_reducible refine s_T ?_ ?_); (with_reducible exact rfl))
  | with_reducible refine s_nT ?_
  | with_reducible refine s_nF ?_
  | ((with_reducible refine s_F ?_ ?_); (with_reducible exact rfl))
  | ((with_reducible refine s_T ?_ ?_); assumption)
  | ((with_reducible refine s_F ?_ ?_); assumption)
  | ((with_reducible refine s_nB ?_ ?_); assumption)
  | ((with_reducible refine s_nA ?_ ?_); assumption)
  | ((with_reducible refine s_Td ?_ ?_); omega)
  | ((with_reducible refine s_Fd ?_ ?_); omega)
  | ((with_reducible refine s_nTd ?_ ?_); omega)
  | ((with_reducible refine s_nFd ?_ ?_); omega)
  | with_reducible refine s_sfld ?_
  | with_reducible refine s_addI ?_
  | with_reducible refine s_subI ?_
  | ((with_reducible refine s_mulI ?_ ?_); (walk_at "mul"))
  | ((with_reducible refine s_divI ?_ ?_); exact ⟨by omega, by omega⟩)
  | ((with_reducible refine s_modI ?_ ?_); omega)
  | ((with_reducible refine s_powI ?_ ?_); exact ⟨by decide, by decide, by decide⟩)
  | with_reducible refine s_ltI ?_
  | with_reducible refine s_leI ?_
  | with_reducible refine s_gtI ?_
  | with_reducible refine s_geI ?_
  | with_reducible refine s_negI ?_
  | with_reducible refine s_absI ?_
  | with_reducible refine s_intI ?_
  | with_reducible refine s_min2 ?_
  | with_reducible refine s_max2 ?_
  | with_reducible refine s_eqI ?_
  | with_reducible refine s_neI ?_
  | with_reducible refine s_eqS ?_
  | with_reducible refine s_neS ?_
  | with_reducible refine s_inSg ?_
  | with_reducible refine s_notInSg ?_
  | ((with_reducible refine s_addS ?_ ?_); (walk_at "sz"))
  | ((with_reducible refine s_lenS ?_ ?_); (walk_at "sz"))
  | ((with_reducible apply s_lenL); (walk_at "sq"))
  | ((with_reducible apply s_lenT); (walk_at "sqt"))
  | ((with_reducible apply s_ixL); (walk_at "sq"); exact rfl)
  | ((with_reducible apply s_ixT); (walk_at "sqt"); exact rfl)
  | with_reducible refine s_gSub ?_
  | ((with_reducible apply s_setL); (walk_at "hp"); (exact rfl); (intro _ _ _))
  | ((with_reducible refine s_alloc ?_ ?_); (walk_at "sz"); (intro _ _ _ _ _))
  | ((with_reducible refine s_divmod ?_ ?_); (exact ⟨by omega, PyProof.noPylong_small (by omega)⟩); (intro _ _ _ _ _))
  | ((with_reducible apply s_gTup); (walk_at "sqt"); (exact rfl))
  | ((with_reducible apply s_gLst); (walk_at "sq"); (exact rfl))
  | with_reducible refine s_gCons ?_
  | with_reducible refine s_gNil ?_
  | with_reducible refine s_lc ?_
  | ((with_reducible apply s_cat); (walk_at "hp"); (walk_at "hp"); (walk_at "sz"); (intro _ _ _ _ _))
  | ((with_reducible apply s_slL); (walk_at "sq"); (intro _ _ _ _ _))
  | with_reducible refine s_for ?_
  | with_reducible refine s_rng1 ?_
  | ((with_reducible refine s_rng1i ?_ ?_); (constructor <;> omega))
  | with_reducible refine s_rng2 ?_
  | ((with_reducible refine s_rng2i ?_ ?_); (refine ⟨?_, ?_, ?_, ?_⟩ <;> omega))
  | with_reducible refine s_iStr ?_
  | with_reducible refine s_iStrS ?_
  | with_reducible refine s_iList ?_
  | ((with_reducible apply s_iListA); (walk_at "sq"))
  | with_reducible refine s_iTup ?_
  | ((with_reducible apply s_iTupA); (walk_at "sqt"))
  | with_reducible refine s_sl ?_
  | with_reducible refine s_noPart ?_
  | with_reducible refine s_part ?_
  | with_reducible refine s_int1 ?_
  | ((with_reducible refine s_slS ?_ ?_); (walk_at "sz"))
  | with_reducible refine s_tup ?_
  | with_reducible refine s_lst ?_
  | with_reducible refine s_par ?_
  | with_reducible refine s_pair ?_
  | with_reducible refine s_M1 ?_
  | with_reducible refine s_isStr ?_
  | with_reducible refine s_revS ?_
  | ((with_reducible refine s_revS1 ?_ ?_); (walk_at "sz"))
  | with_reducible refine s_fldE ?_
  | with_reducible refine s_propE ?_
  | ((with_reducible refine u_draw ?_ ?_ ?_ ?_); omega; omega; (walk_at "pool"); (intro _ _ _ _ _ _))
  | ((with_reducible refine u_pool ?_); (intro _ _ _ _ _))
  | with_reducible refine u_is_integer ?_
  | with_reducible refine s_isiII ?_
  | with_reducible refine s_isiIB ?_
  | with_reducible refine s_isiSS ?_
  | ((with_reducible apply u_fldRing); assumption; (walk_at "ring"))
  | ((with_reducible apply u_textP); (walk_at "ring"))
  | ((with_reducible apply u_strRing); (walk_at "ring"))
  | ((with_reducible apply u_eqRing); (walk_at "ring"); (walk_at "ring"))
  | ((with_reducible apply u_isiRing); assumption; (walk_at "ring"))
  | ((with_reducible refine u_is_word ?_ ?_); omega; (intro _ _))
  | ((with_reducible refine u_turnings ?_ ?_); omega; (intro _ _ _ _ _))
  | with_reducible refine s_makeE ?_
  | with_reducible refine s_methE ?_)
local macro_rules | `(tactic| walk_at "go") => `(tactic| repeat (walk_at "st"))
local macro_rules | `(tactic| walk_at "exs") => `(tactic| first | exact Ex.rfl | assumption | (apply Ex.snoc (by assumption); walk_at "exs") | (apply Ex.snocW (by assumption); walk_at "exs"))
local macro_rules | `(tactic| walk_at "kind") => `(tactic| first | assumption | (apply KindAt.ex0 (by assumption); (walk_at "kind")) | (apply KindAt.exP (by assumption) (by assumption); (walk_at "kind")))
local macro_rules | `(tactic| walk_at "st") => `(tactic| first
  | with_reducible refine s_lenSet ?_
  | with_reducible refine s_drop ?_
  | with_reducible refine s_bm ?_
  | with_reducible refine s_notN ?_
  | with_reducible refine s_isN ?_
  | ((with_reducible apply s_tyL); (walk_at "hp"))
  | with_reducible refine s_enumT ?_
  | ((with_reducible apply s_enumTA); (walk_at "sqt"))
  | with_reducible refine s_lc2 ?_)
local macro_rules | `(tactic| walk_at "lit") => `(tactic| exact lit_MRK)
local macro_rules | `(tactic| walk_at "st") => `(tactic| first
  | with_reducible refine s_dcT ?_
  | with_reducible refine s_dc ?_)
def t_Loop_init (K : PySem.W.Frag) : TS :=
  (tSeq (tDrop (tCall (sp_check_signs K) [] E0 (tCons (tVar 1) tNil)))
  (tSeq (tDrop (tCall (sp_check_states K) [] E0 (tCons (tVar 2) tNil)))
  (tSeq (tDrop (tCall (sp_check_rows K) [] E0 (tCons (tVar 1) (tCons (tVar 2) (tCons (tVar 3) tNil)))))
  (tSeq (tDrop (tCall (sp_check_turns K) [] E0 (tCons (tVar 2) (tCons (tVar 4) tNil))))
  (tSeq (tDrop (tCall (sp_check_yes K) [] E0 (tCons (tVar 2) (tCons (tVar 5) tNil))))
  (tSeq (sFld K (tVar 0) (tM1 (rJoin K) (tC (.str "")) (tCB (rSrt K) (tCons (tVar 1) tNil))) "letters")
  (tSeq (sFld K (tVar 0) (tVar 2) "order")
  (tSeq (sFld K (tVar 0) (tDcT (iTup K (tVar 3)) (gTup K 4 (gCons (gName 6) (gCons (gName 7) (gCons (gName 8) (gCons (gName 9) gNil))))) tYes (tTup (tCons (tVar 6) (tCons (tVar 7) tNil))) (tTup (tCons (tVar 8) (tCons (tVar 9) tNil))) [6, 7, 8, 9]) "table")
  (tSeq (tAsg (tDc (iTup K (tVar 4)) (gTup K 3 (gCons (gName 6) (gCons (gName 8) (gCons (gName 9) gNil)))) tYes (tVar 6) (tTup (tCons (tVar 8) (tCons (tVar 9) tNil))) [6, 8, 9]) (gName 10))
  (tSeq (sFld K (tVar 0) (tDc (iTup K (tVar 2)) (gName 6) tYes (tVar 6) (tDGet2 (tVar 10) (tVar 6) (tTup (tCons (tVar 6) (tCons (tC (.int 0)) tNil)))) [6]) "ending")
  (sFld K (tVar 0) (tCB (rTupOf K) (tCons (tLc (iTup K (tVar 2)) (gName 6) (tTest (tOp (rIn K false) (tVar 6) (tVar 5))) (tVar 6) [6]) tNil)) "marked")))))))))))
section
variable {K : PySem.W.Frag} {vs : List V} {H H' : Hp} {Q : VK} {E : XK}
theorem sqT_ins {x t C dx : Addr} {fs : List (Str × V)} {ys : List V} (hx : H x = some (.ins C dx fs)) (e : Ex [x] H H') (h : SqT K H t ys) : SqT K H' t ys := by
  rcases h with (h | ⟨o, h⟩) | h
  · exact e.sqT (by simp only [List.mem_singleton]; intro w; rw [w, hx] at h; cases h) (.inl (.inl h))
  · exact e.sqT (by simp only [List.mem_singleton]; intro w; rw [w, hx] at h; cases h) (.inl (.inr ⟨o, h⟩))
  · exact .inr h
theorem TupsAt.exI {x t C dx : Addr} {fs : List (Str × V)} {ls : List (List V)} (hx : H x = some (.ins C dx fs)) (e : Ex [x] H H') (h : TupsAt K H t ls) : TupsAt K H' t ls := by
  obtain ⟨xs, h1, h2, h3⟩ := h
  refine ⟨xs, sqT_ins hx e h1, h2, fun i y l hy hl => ?_⟩
  obtain ⟨p, h4, h5⟩ := h3 i y l hy hl
  exact ⟨p, h4, sqT_ins hx e h5⟩
theorem s_setF {f : Str} {y : V} {n : Hp → Prop} {x C dx : Addr} {fs : List (Str × V)} (hx : H x = some (.ins C dx fs)) (c : Cls K C) (na : NoAttr K C f) (hl : fs.length < 30) (k : ∀ H', Ex [x] H H' → H' x = some (.ins C dx (putF f y fs)) → n H') : SetG K f y (.ref x) H n :=
  ⟨x, _, dx, _, rfl, hx, c, na, by first | exact hl | omega, k _ (Ex.put (by simp)) upd_same⟩
def TabR (K : PySem.W.Frag) (H : Hp) (kvs : List (List Key × V)) (rs : List Rw) : Prop := ∀ r ∈ rs, ∃ p, valV kvs [kS r.a, kS [r.c]] = some (.ref p) ∧ SqT K H p [vS r.b, .int r.n]
def EndR (K : PySem.W.Frag) (H : Hp) (kvs : List (Key × V)) (ts : List Tn) : Prop := ∀ t ∈ ts, ∃ p, valV kvs (kS t.a) = some (.ref p) ∧ SqT K H p [vS t.b, .int t.n]
theorem key2 {a b : List Nat} {c d : Nat} (h : [kS a, kS [c]] = [kS b, kS [d]]) : a = b ∧ c = d := by
  injection h with h1 h2
  injection h2 with h2 _
  have := kS_inj h2
  exact ⟨kS_inj h1, by simpa using this⟩
theorem tab_all {s : List Nat} {st : List (List Nat)} {rs : List Rw} (h : goodRws s st rs) {a : List Nat} {c : Nat} (ha : a ∈ st) (hc : c ∈ s) : ∃ r ∈ rs, r.a = a ∧ r.c = c := by
  obtain ⟨g1, g2, g3⟩ := h
  have hp := perm_of_sub (rs.map fun r => (r.a, r.c)) (st.flatMap fun a => s.map fun c => (a, c)) g2 (fun p hp => by
    obtain ⟨r, hr, rfl⟩ := List.mem_map.mp hp
    exact List.mem_flatMap.mpr ⟨r.a, (g1 r hr).1, List.mem_map.mpr ⟨r.c, (g1 r hr).2.1, rfl⟩⟩) (by
    rw [List.length_map, g3, List.length_flatMap]
    simp only [List.length_map]
    have : ∀ (l : List (List Nat)) (n : Nat), (l.map fun _ => n).sum = l.length * n := by
      intro l n
      induction l with
      | nil => simp
      | cons x l ih => rw [List.map_cons, List.sum_cons, ih, List.length_cons, Nat.succ_mul]; omega
    rw [this, Nat.mul_comm]
    exact Nat.le_refl _)
  have := hp.mem_iff.mpr (List.mem_flatMap.mpr ⟨a, ha, List.mem_map.mpr ⟨c, hc, rfl⟩⟩)
  obtain ⟨r, hr, e⟩ := List.mem_map.mp this
  injection e with e1 e2
  exact ⟨r, hr, e1, e2⟩
theorem tb_of {rs : List Rw} (g2 : (rs.map fun r => (r.a, r.c)).Nodup) : ∀ {r : Rw}, r ∈ rs → tbOf rs r.a r.c = (r.b, r.n) := by
  induction rs with
  | nil => intro r h; cases h
  | cons x rs ih =>
    intro r h
    obtain ⟨h1, h2⟩ := List.nodup_cons.mp g2
    unfold tbOf
    rw [List.find?_cons]
    rcases List.mem_cons.mp h with rfl | h
    · simp
    · have : ¬ (x.a = r.a ∧ x.c = r.c) := fun z => h1 (List.mem_map.mpr ⟨r, h, by simp only [z.1, z.2]⟩)
      rw [decide_eq_false this]
      exact ih h2 h
theorem en_of {ts : List Tn} (g2 : (ts.map fun t => t.a).Nodup) : ∀ {t : Tn}, t ∈ ts → enOf ts t.a = (t.b, t.n) := by
  induction ts with
  | nil => intro r h; cases h
  | cons x ts ih =>
    intro r h
    obtain ⟨h1, h2⟩ := List.nodup_cons.mp g2
    unfold enOf
    rw [List.find?_cons]
    rcases List.mem_cons.mp h with rfl | h
    · simp
    · have : ¬ (x.a = r.a) := fun z => h1 (List.mem_map.mpr ⟨r, h, z.symm⟩)
      rw [decide_eq_false this]
      exact ih h2 h
theorem en_no {ts : List Tn} {a : List Nat} (h : a ∉ ts.map fun t => t.a) : enOf ts a = (a, 0) := by
  unfold enOf
  rw [List.find?_eq_none.mpr fun t ht => by
    simp only [decide_eq_true_eq]
    exact fun z => h (List.mem_map.mpr ⟨t, ht, z⟩)]
  rfl
theorem upd_TabR {D : Addr} {o : HO} {kvs : List (List Key × V)} {rs : List Rw} (h1 : ∃ ks, H D = some (.dT ks)) (h : TabR K H kvs rs) : TabR K (upd H D o) kvs rs := fun r hr => by
  obtain ⟨p, h2, h3⟩ := h r hr
  obtain ⟨ks, h1⟩ := h1
  refine ⟨p, h2, ?_⟩
  have e : Ex [D] H (upd H D o) := Ex.put (by simp)
  rcases h3 with (h | ⟨ob, h⟩) | h
  · exact e.sqT (by simp only [List.mem_singleton]; intro w; rw [w, h1] at h; cases h) (.inl (.inl h))
  · exact e.sqT (by simp only [List.mem_singleton]; intro w; rw [w, h1] at h; cases h) (.inl (.inr ⟨ob, h⟩))
  · exact .inr h
theorem dc_table {u : Addr} {rs : List Rw} {σ : St} {a1 a2 a3 a4 : Nat} (τ : V → V → V → V → St)
    (hτ : ∀ A B C D, ((((wipe σ [a1, a2, a3, a4]).set a1 (some A)).set a2 (some B)).set a3 (some C)).set a4 (some D) = τ A B C D) (hw : ∀ A B C D, wipe (τ A B C D) [a1, a2, a3, a4] = wipe σ [a1, a2, a3, a4])
    (l1 : ∀ A B C D, (τ A B C D)[a1]? = some (some A)) (l2 : ∀ A B C D, (τ A B C D)[a2]? = some (some B)) (l3 : ∀ A B C D, (τ A B C D)[a3]? = some (some C)) (l4 : ∀ A B C D, (τ A B C D)[a4]? = some (some D))
    (hu : TupsAt K H u (rs.map rwV)) (hn : rs.length ≤ 1000) (g2 : (rs.map fun r => (r.a, r.c)).Nodup)
    (k : ∀ D H' kvs, H D = none → Ex [] H H' → H' D = some (.dT kvs) → TabR K H' kvs rs → Q (.ref D) H') :
    ∃ b, V.ref u = .ref b ∧ (∃ xs, SqT K H b xs) ∧ DcTW (Itt K b) (gTup K 4 (gCons (gName a1) (gCons (gName a2) (gCons (gName a3) (gCons (gName a4) gNil))))) tYes (tTup (tCons (tVar a1) (tCons (tVar a2) tNil))) (tTup (tCons (tVar a3) (tCons (tVar a4) tNil))) [a1, a2, a3, a4] σ H Q := by
  obtain ⟨xs, hxs, hxl, hxp⟩ := hu
  rw [List.length_map] at hxl
  refine ⟨u, rfl, ⟨xs, hxs⟩, dcT_it (walk_tup (xs := xs)) (fun D i H1 => Ex [] H H1 ∧ H D = none ∧ ∃ kvs, H1 D = some (.dT kvs) ∧ kvs.length ≤ i ∧ TabR K H1 kvs (rs.take i)) (fun D hD => ⟨Ex.new hD, hD, [], upd_same, Nat.le_refl _, by intro r hr; simp at hr⟩) (fun D i H1 _ h => h.1.sqT (by simp) hxs) ?_ ?_⟩
  · rintro D i x H1 H2 hi ⟨e1, hD, kvs, h1, hl, ht⟩ ⟨rfl, hx⟩
    have hit : i < rs.length := by omega
    obtain ⟨p, rfl, hp⟩ := hxp i x (rwV rs[i]) hx (by rw [List.getElem?_map, List.getElem?_eq_getElem hit]; rfl)
    refine s_gTup (e1.sqT (by simp) hp) rfl ?_
    unfold rwV
    refine s_gCons ?_
    refine s_gName ?_
    refine s_gCons ?_
    refine s_gName ?_
    refine s_gCons ?_
    refine s_gName ?_
    refine s_gCons ?_
    refine s_gName ?_
    refine s_gNil ?_
    rw [hτ]
    refine ⟨hw _ _ _ _, ?_⟩
    refine s_yes ?_
    refine s_T rfl ?_
    refine s_tup ?_
    refine s_cons ?_
    refine s_var (l1 _ _ _ _) ?_
    refine s_cons ?_
    refine s_var (l2 _ _ _ _) ?_
    refine s_nil ?_
    refine s_alloc (by show 2 ≤ sizeLine; decide) fun q3 H3 n3 e3 h3 => ?_
    refine s_tup ?_
    refine s_cons ?_
    refine s_var (l3 _ _ _ _) ?_
    refine s_cons ?_
    refine s_var (l4 _ _ _ _) ?_
    refine s_nil ?_
    refine s_alloc (by show 2 ≤ sizeLine; decide) fun q4 H4 n4 e4 h4 => ?_
    have hD4 : H4 D = some (.dT kvs) := e4.get0 (e3.get0 h1)
    refine ⟨kvs, [kS rs[i].a, kS [rs[i].c]], q3, rfl, e4.get0 h3, hD4, Nat.lt_of_le_of_lt hl (Nat.lt_of_lt_of_le hit (Nat.le_trans hn (by decide))), ?_, hD, _, upd_same, ?_, ?_⟩
    · intro b o nb hb
      rw [upd_ne (ne_of_none hb hD)]
      exact e4.get0 (e3.get0 (e1 b o nb hb))
    · have := length_putK kvs [kS rs[i].a, kS [rs[i].c]] (.ref q4)
      omega
    · intro r hr
      have hT : TabR K H4 kvs (rs.take i) := fun r hr => by
        obtain ⟨p, z1, z2⟩ := ht r hr
        exact ⟨p, z1, (e3.trans e4).sqT (by simp) z2⟩
      rw [List.take_add_one, List.getElem?_eq_getElem hit] at hr
      rcases List.mem_append.mp hr with hr | hr
      · obtain ⟨p', z1, z2⟩ := upd_TabR (o := .dT (putK kvs [kS rs[i].a, kS [rs[i].c]] (.ref q4))) ⟨_, hD4⟩ hT r hr
        refine ⟨p', ?_, z2⟩
        rw [valV_put, if_neg, z1]
        intro z
        obtain ⟨z3, z4⟩ := key2 z
        have := not_mem_take g2 (i := i) (by rw [List.length_map]; exact hit)
        rw [List.getElem_map, ← List.map_take] at this
        exact this (List.mem_map.mpr ⟨r, hr, by simp only [z3, z4]⟩)
      · have hr' : r = rs[i] := by simpa using hr
        subst hr'
        refine ⟨q4, by rw [valV_put, if_pos rfl], SqT.of ?_⟩
        rw [upd_ne (fun z => by rw [z, hD4] at h4; cases h4)]
        exact h4
  · rintro D H1 hD ⟨e1, _, kvs, h1, hl, ht⟩
    rw [hxl, List.take_length] at ht
    exact k D H1 kvs hD e1 h1 ht
def GivR (K : PySem.W.Frag) (H : Hp) (kvs : List (Key × V)) (ts : List Tn) : Prop := EndR K H kvs ts ∧ ∀ a, a ∉ ts.map (fun t => t.a) → valV kvs (kS a) = none
theorem sqT_dK {D t : Addr} {ks : List (Key × V)} {xs : List V} {o : HO} (h1 : H D = some (.dK ks)) (h : SqT K H t xs) : SqT K (upd H D o) t xs := by
  have e : Ex [D] H (upd H D o) := Ex.put (by simp)
  rcases h with (h | ⟨ob, h⟩) | h
  · exact e.sqT (by simp only [List.mem_singleton]; intro w; rw [w, h1] at h; cases h) (.inl (.inl h))
  · exact e.sqT (by simp only [List.mem_singleton]; intro w; rw [w, h1] at h; cases h) (.inl (.inr ⟨ob, h⟩))
  · exact .inr h
theorem dc_given {u : Addr} {ts : List Tn} {σ : St} {a1 a2 a3 : Nat} (τ : V → V → V → St)
    (hτ : ∀ A B C, (((wipe σ [a1, a2, a3]).set a1 (some A)).set a2 (some B)).set a3 (some C) = τ A B C) (hw : ∀ A B C, wipe (τ A B C) [a1, a2, a3] = wipe σ [a1, a2, a3])
    (l1 : ∀ A B C, (τ A B C)[a1]? = some (some A)) (l2 : ∀ A B C, (τ A B C)[a2]? = some (some B)) (l3 : ∀ A B C, (τ A B C)[a3]? = some (some C))
    (hu : TupsAt K H u (ts.map tnV)) (hn : ts.length ≤ 1000) (g2 : (ts.map fun r => r.a).Nodup)
    (k : ∀ D H' kvs, H D = none → Ex [] H H' → H' D = some (.dK kvs) → GivR K H' kvs ts → Q (.ref D) H') :
    ∃ b, V.ref u = .ref b ∧ (∃ xs, SqT K H b xs) ∧ DcW (Itt K b) (gTup K 3 (gCons (gName a1) (gCons (gName a2) (gCons (gName a3) gNil)))) tYes (tVar a1) (tTup (tCons (tVar a2) (tCons (tVar a3) tNil))) [a1, a2, a3] σ H Q := by
  obtain ⟨xs, hxs, hxl, hxp⟩ := hu
  rw [List.length_map] at hxl
  refine ⟨u, rfl, ⟨xs, hxs⟩, dc_it (walk_tup (xs := xs)) (fun D i H1 => Ex [] H H1 ∧ H D = none ∧ ∃ kvs, H1 D = some (.dK kvs) ∧ kvs.length ≤ i ∧ GivR K H1 kvs (ts.take i)) (fun D hD => ⟨Ex.new hD, hD, [], upd_same, Nat.le_refl _, by intro r hr; simp at hr, fun _ _ => rfl⟩) (fun D i H1 _ h => h.1.sqT (by simp) hxs) ?_ ?_⟩
  · rintro D i x H1 H2 hi ⟨e1, hD, kvs, h1, hl, ht, hno⟩ ⟨rfl, hx⟩
    have hit : i < ts.length := by omega
    obtain ⟨p, rfl, hp⟩ := hxp i x (tnV ts[i]) hx (by rw [List.getElem?_map, List.getElem?_eq_getElem hit]; rfl)
    refine s_gTup (e1.sqT (by simp) hp) rfl ?_
    unfold tnV
    refine s_gCons ?_
    refine s_gName ?_
    refine s_gCons ?_
    refine s_gName ?_
    refine s_gCons ?_
    refine s_gName ?_
    refine s_gNil ?_
    rw [hτ]
    refine ⟨hw _ _ _, ?_⟩
    refine s_yes ?_
    refine s_T rfl ?_
    refine s_var (l1 _ _ _) ?_
    refine s_tup ?_
    refine s_cons ?_
    refine s_var (l2 _ _ _) ?_
    refine s_cons ?_
    refine s_var (l3 _ _ _) ?_
    refine s_nil ?_
    refine s_alloc (by show 2 ≤ sizeLine; decide) fun q4 H4 n4 e4 h4 => ?_
    have hD4 : H4 D = some (.dK kvs) := e4.get0 h1
    have hni := not_mem_take g2 (i := i) (by rw [List.length_map]; exact hit)
    rw [List.getElem_map, ← List.map_take] at hni
    refine ⟨kvs, kS ts[i].a, rfl, hD4, Nat.lt_of_le_of_lt hl (Nat.lt_of_lt_of_le hit (Nat.le_trans hn (by decide))), ?_, hD, _, upd_same, ?_, ?_, ?_⟩
    · intro b o nb hb
      rw [upd_ne (ne_of_none hb hD)]
      exact e4.get0 (e1 b o nb hb)
    · have := length_putK kvs (kS ts[i].a) (.ref q4)
      omega
    · intro r hr
      rw [List.take_add_one, List.getElem?_eq_getElem hit] at hr
      rcases List.mem_append.mp hr with hr | hr
      · obtain ⟨p', z1, z2⟩ := ht r hr
        refine ⟨p', ?_, sqT_dK hD4 (e4.sqT (by simp) z2)⟩
        rw [valV_put, if_neg, z1]
        intro z
        exact hni (List.mem_map.mpr ⟨r, hr, kS_inj z⟩)
      · have hr' : r = ts[i] := by simpa using hr
        subst hr'
        refine ⟨q4, by rw [valV_put, if_pos rfl], SqT.of ?_⟩
        rw [upd_ne (fun z => by rw [z, hD4] at h4; cases h4)]
        exact h4
    · intro a ha
      rw [take1 (fun t => t.a) hit] at ha
      rw [valV_put, if_neg (fun z => ha (by rw [kS_inj z]; simp)), hno a (fun z => ha (List.mem_append_left _ z))]
  · rintro D H1 hD ⟨e1, _, kvs, h1, hl, ht⟩
    rw [hxl, List.take_length] at ht
    exact k D H1 kvs hD e1 h1 ht
theorem dc_ending {t d : Addr} {st : List (List Nat)} {ts : List Tn} {kg : List (Key × V)} {σ : St} {a1 g : Nat} (τ : V → St)
    (hτ : ∀ A, (wipe σ [a1]).set a1 (some A) = τ A) (hw : ∀ A, wipe (τ A) [a1] = wipe σ [a1])
    (l1 : ∀ A, (τ A)[a1]? = some (some A)) (l2 : ∀ A, (τ A)[g]? = some (some (.ref d))) (ht : SqT K H t (st.map vS)) (hn : st.length ≤ 1000) (g3 : st.Nodup) (hd : H d = some (.dK kg)) (hg : GivR K H kg ts) (g2 : (ts.map fun r => r.a).Nodup)
    (k : ∀ D H' kvs, H D = none → Ex [] H H' → H' D = some (.dK kvs) → (∀ a ∈ st, ∃ p, valV kvs (kS a) = some (.ref p) ∧ SqT K H' p [vS (enOf ts a).1, .int (enOf ts a).2]) → Q (.ref D) H') :
    DcW (Itt K t) (gName a1) tYes (tVar a1) (tDGet2 (tVar g) (tVar a1) (tTup (tCons (tVar a1) (tCons (tC (.int 0)) tNil)))) [a1] σ H Q := by
  refine dc_it (walk_tup (xs := st.map vS)) (fun D i H1 => Ex [] H H1 ∧ H D = none ∧ ∃ kvs, H1 D = some (.dK kvs) ∧ kvs.length ≤ i ∧ ∀ a ∈ st.take i, ∃ p, valV kvs (kS a) = some (.ref p) ∧ SqT K H1 p [vS (enOf ts a).1, .int (enOf ts a).2]) (fun D hD => ⟨Ex.new hD, hD, [], upd_same, Nat.le_refl _, by intro r hr; simp at hr⟩) (fun D i H1 _ h => h.1.sqT (by simp) ht) ?_ ?_
  · rintro D i x H1 H2 hi ⟨e1, hD, kvs, h1, hl, hh⟩ ⟨rfl, hx⟩
    rw [List.length_map] at hi
    rw [List.getElem?_map, List.getElem?_eq_getElem hi] at hx
    cases hx
    refine s_gName ?_
    rw [hτ]
    refine ⟨hw _, ?_⟩
    refine s_yes ?_
    refine s_T rfl ?_
    refine s_var (l1 _) ?_
    refine s_var (l2 _) ?_
    refine ⟨d, rfl, .inl ⟨kg, .inl (e1.get0 hd)⟩, ?_⟩
    refine s_var (l1 _) ?_
    refine s_tup ?_
    refine s_cons ?_
    refine s_var (l1 _) ?_
    refine s_cons ?_
    refine s_c ?_
    refine s_nil ?_
    refine s_alloc (by show 2 ≤ sizeLine; decide) fun q4 H4 n4 e4 h4 => ?_
    have hD4 : H4 D = some (.dK kvs) := e4.get0 h1
    refine ⟨_, DGet.k (k := kS st[i]) ((e1.trans e4).get0 hd), ?_⟩
    have fin : ∀ p, SqT K H4 p [vS (enOf ts st[i]).1, .int (enOf ts st[i]).2] → ∃ kvs k, vS st[i] = kV k ∧ H4 D = some (.dK kvs) ∧ kvs.length < sizeLine ∧ (Ex [] H (upd H4 D (.dK (putK kvs k (.ref p)))) ∧ H D = none ∧ ∃ kvs', (upd H4 D (.dK (putK kvs k (.ref p)))) D = some (.dK kvs') ∧ kvs'.length ≤ i + 1 ∧ ∀ a ∈ st.take (i + 1), ∃ p', valV kvs' (kS a) = some (.ref p') ∧ SqT K (upd H4 D (.dK (putK kvs k (.ref p)))) p' [vS (enOf ts a).1, .int (enOf ts a).2]) := by
      intro p hp
      refine ⟨kvs, kS st[i], rfl, hD4, Nat.lt_of_le_of_lt hl (Nat.lt_of_lt_of_le hi (Nat.le_trans hn (by decide))), ?_, hD, _, upd_same, ?_, ?_⟩
      · intro b o nb hb
        rw [upd_ne (ne_of_none hb hD)]
        exact e4.get0 (e1 b o nb hb)
      · have := length_putK kvs (kS st[i]) (.ref p)
        omega
      · intro a ha
        rw [List.take_add_one, List.getElem?_eq_getElem hi] at ha
        rcases List.mem_append.mp ha with ha | ha
        · obtain ⟨p', z1, z2⟩ := hh a ha
          refine ⟨p', ?_, sqT_dK hD4 (e4.sqT (by simp) z2)⟩
          rw [valV_put, if_neg, z1]
          intro z
          exact not_mem_take g3 hi (by rw [← kS_inj z]; exact ha)
        · have hr' : a = st[i] := by simpa using ha
          subst hr'
          exact ⟨p, by rw [valV_put, if_pos rfl], sqT_dK hD4 hp⟩
    by_cases hin : st[i] ∈ ts.map fun t => t.a
    · obtain ⟨r, hr, er⟩ := List.mem_map.mp hin
      obtain ⟨p, z1, z2⟩ := hg.1 r hr
      rw [← er, z1]
      have := fin p (by rw [← er, en_of g2 hr]; exact (e1.trans e4).sqT (by simp) z2)
      rw [← er] at this
      exact this
    · rw [hg.2 _ hin]
      exact fin q4 (by rw [en_no hin]; exact SqT.of h4)
  · rintro D H1 hD ⟨e1, _, kvs, h1, hl, hh⟩
    rw [List.length_map, List.take_length] at hh
    exact k D H1 kvs hD e1 h1 hh
theorem lc_fmT {b : Addr} {ls : List (List Nat)} {j : Nat} {tt : TT} {te : TE} {σ : St} (hq : SqT K H b (ls.map vS)) (hn : ls.length ≤ 100000) (pr : List Nat → Bool) (val : List Nat → V)
    (h : ∀ (x : List Nat) (H1 : Hp) (C1 : VK) (C0 : Hp → Prop), x ∈ ls → Ex [] H H1 → (∀ H2, Ex [] H1 H2 → pr x = true → C1 (val x) H2) → (∀ H2, Ex [] H1 H2 → pr x = false → C0 H2) →
      tt ((wipe σ [j]).set j (some (vS x))) H1 fun b H2 => if b = true then te ((wipe σ [j]).set j (some (vS x))) H2 C1 else C0 H2)
    (k : ∀ D H', H D = none → Ex [] H H' → H' D = some (.lst ((ls.filter pr).map val)) → Q (.ref D) H') : LcW (Itt K b) (gName j) tt te [j] σ H Q := by
  refine lc_run (walk_tup (xs := ls.map vS)) (by rw [List.length_map]; exact hn) [] (fun _ => True) (fun i acc _ => acc = ((ls.take i).filter pr).map val) (by simp) trivial (by simp) (fun _ _ _ _ _ => trivial) (fun _ _ _ _ _ _ h => h) (fun H1 e => e.sqT (by simp) hq) ?_ ?_
  · rintro i acc x H1 H2 C1 C0 hi e _ rfl ⟨rfl, hx⟩ k1 k0
    rw [List.length_map] at hi
    rw [List.getElem?_map, List.getElem?_eq_getElem hi] at hx
    cases hx
    refine ⟨wipe1 _ _ _, ?_⟩
    refine h ls[i] _ C1 C0 (List.getElem_mem hi) e (fun H5 e5 hp => k1 _ H5 e5 trivial ?_) (fun H5 e5 hp => k0 H5 e5 trivial ?_)
    · rw [List.take_add_one, List.getElem?_eq_getElem hi, List.filter_append, List.map_append]
      simp [hp]
    · rw [List.take_add_one, List.getElem?_eq_getElem hi, List.filter_append, List.map_append]
      simp [hp]
  · rintro D H' ys hD e _ hd _ rfl
    rw [List.length_map, List.take_length] at hd
    exact k D H' hD e hd
theorem pure_Loop_init (F : LoopK K) (h : sp_Loop_init K vs H Q E) : t_Loop_init K (E1 Q) (start ["self", "signs", "states", "rows", "turns", "yes", "state", "sign", "later", "amount", "given"] vs) H := by
  obtain ⟨x, s, t, u, v, w, dx, rfl, hx, st, rs, ts, ys, hs, ht, hst, hu, hrs, hv, hts, hw, hys, k⟩ := h
  have h4 := hs.2.1
  show t_Loop_init K (E1 Q) [some (.ref x), some (vS s), some (.ref t), some (.ref u), some (.ref v), some (.ref w), none, none, none, none, none] H
  unfold t_Loop_init
  walk_at "go"
  refine u_check_signs hs fun H1 e1 => ?_
  walk_at "go"
  refine u_check_states (e1.sqT (by simp) ht) hst fun H2 e2 => ?_
  have e02 := e1.trans e2
  walk_at "go"
  refine u_check_rows hs (e02.sqT (by simp) ht) hst (hu.ex0 e02) hrs fun H3 e3 => ?_
  have e03 := e02.trans e3
  walk_at "go"
  refine u_check_turns (e03.sqT (by simp) ht) hst (hv.ex0 e03) hts fun H4 e4 => ?_
  have e04 := e03.trans e4
  walk_at "go"
  refine u_check_yes (e04.sqT (by simp) ht) (e04.sqT (by simp) hw) hys fun H5 e5 => ?_
  have e05 := e04.trans e5
  clear e1 e2 e3 e4 e5 e02 e03 e04
  walk_at "go"
  refine s_srtS (by omega) fun p2 H6 n6 e6 h6 => ?_
  have e06 := e05.trans e6
  clear e05 e6
  walk_at "go"
  refine s_join0 (ls := srt (s.map fun c => [c])) (SqL.of h6) (by rw [flat_len1]; omega) ?_
  walk_at "go"
  refine s_setF (e06.get0 hx) F.cl F.n1 (by simp) fun H7 e7 h7 => ?_
  have e07 : Ex [x] H H7 := e06.wide.trans e7
  have ht7 := sqT_ins (e06.get0 hx) e7 (e06.sqT (by simp) ht)
  have hw7 := sqT_ins (e06.get0 hx) e7 (e06.sqT (by simp) hw)
  have hu7 := (hu.ex0 e06).exI (e06.get0 hx) e7
  have hv7 := (hv.ex0 e06).exI (e06.get0 hx) e7
  clear e7 h6
  walk_at "go"
  refine s_setF h7 F.cl F.n2 (show (1 : Nat) < 30 by decide) fun H8 e8 h8 => ?_
  have e08 : Ex [x] H H8 := e07.trans e8
  have ht8 := sqT_ins h7 e8 ht7
  have hw8 := sqT_ins h7 e8 hw7
  have hu8 := hu7.exI h7 e8
  have hv8 := hv7.exI h7 e8
  clear e8 e07 h7 ht7 hw7 hu7 hv7
  have hrl : rs.length ≤ 24 := by rw [hrs.2.2]; exact Nat.mul_le_mul h4 hst.2.1
  have htl : ts.length ≤ 6 := by
    have := nodup_le _ st hts.2 fun a ha => by obtain ⟨t, h1, rfl⟩ := List.mem_map.mp ha; exact (hts.1 t h1).1
    rw [List.length_map] at this
    exact Nat.le_trans this hst.2.1
  walk_at "go"
  refine dc_table (fun A B C D => [some (.ref x), some (vS s), some (.ref t), some (.ref u), some (.ref v), some (.ref w), some A, some B, some C, some D, none]) (fun _ _ _ _ => rfl) (fun _ _ _ _ => rfl) (fun _ _ _ _ => rfl) (fun _ _ _ _ => rfl) (fun _ _ _ _ => rfl) (fun _ _ _ _ => rfl) hu8 (by omega) hrs.2.1 fun tt H9 kt n9 e9 h9 hT => ?_
  walk_at "go"
  have hx9 := e9.get0 h8
  refine s_setF hx9 F.cl F.n3 (show (2 : Nat) < 30 by decide) fun H10 e10 h10 => ?_
  have e010 : Ex [x] H H10 := (e08.trans e9.wide).trans e10
  have ht10 := sqT_ins hx9 e10 (e9.sqT (by simp) ht8)
  have hw10 := sqT_ins hx9 e10 (e9.sqT (by simp) hw8)
  have hv10 := (hv8.ex0 e9).exI hx9 e10
  have htt10 : H10 tt = some (.dT kt) := e10.get (by simp only [List.mem_singleton]; intro z; rw [z, hx9] at h9; cases h9) h9
  have hT10 : TabR K H10 kt rs := fun r hr => by
    obtain ⟨p, z1, z2⟩ := hT r hr
    exact ⟨p, z1, sqT_ins hx9 e10 z2⟩
  clear e10 e9 e08 hx9 h9 hT ht8 hw8 hu8 hv8
  walk_at "go"
  refine dc_given (fun A B C => [some (.ref x), some (vS s), some (.ref t), some (.ref u), some (.ref v), some (.ref w), some A, none, some B, some C, none]) (fun _ _ _ => rfl) (fun _ _ _ => rfl) (fun _ _ _ => rfl) (fun _ _ _ => rfl) (fun _ _ _ => rfl) hv10 (by omega) hts.2 fun d H11 kg n11 e11 h11 hG => ?_
  walk_at "go"
  refine dc_ending (d := d) (g := 10) (a1 := 6) (fun A => [some (.ref x), some (vS s), some (.ref t), some (.ref u), some (.ref v), some (.ref w), some A, none, none, none, some (.ref d)]) (fun _ => rfl) (fun _ => rfl) (fun _ => rfl) (fun _ => rfl) (e11.sqT (by simp) ht10) (by have := hst.2.1; omega) hst.2.2.1 h11 hG hts.2 fun te H12 ke n12 e12 h12 hE => ?_
  walk_at "go"
  have e1012 := e11.trans e12
  have hx12 := e1012.get0 h10
  refine s_setF hx12 F.cl F.n4 (show (3 : Nat) < 30 by decide) fun H13 e13 h13 => ?_
  have e013 : Ex [x] H H13 := (e010.trans e1012.wide).trans e13
  have ht13 := sqT_ins hx12 e13 (e1012.sqT (by simp) ht10)
  have hw13 := sqT_ins hx12 e13 (e1012.sqT (by simp) hw10)
  have htt13 : H13 tt = some (.dT kt) := e13.get (by simp only [List.mem_singleton]; intro z; rw [z] at htt10; rw [htt10] at h10; cases h10) (e1012.get0 htt10)
  have hte13 : H13 te = some (.dK ke) := e13.get (by simp only [List.mem_singleton]; intro z; rw [z, hx12] at h12; cases h12) h12
  walk_at "go"
  refine lc_fmT (ls := st) ht13 (by have := hst.2.1; omega) (fun a => decide (a ∈ ys)) vS (fun a G C1 C0 ha eg k1 k0 => ?_) (fun D G hD eg hd => ?_)
  · walk_at "go"
    refine s_inT (eg.sqT (by simp) hw13) ?_
    walk_at "go"
    refine s_2 (fun h => ?_) fun h => k0 _ Ex.rfl h
    walk_at "go"
    exact k1 _ Ex.rfl h
  walk_at "go"
  refine s_tupOf (SqL.of hd) fun tm G2 n14 e14 h14 => ?_
  walk_at "go"
  have hx14 := e14.get0 (eg.get0 h13)
  refine s_setF hx14 F.cl F.n5 (show (4 : Nat) < 30 by decide) fun G3 e15 h15 => ?_
  have e1315 := eg.trans e14
  refine k _ ((e013.trans e1315.wide).trans e15) ⟨dx, t, tt, te, tm, kt, ke, h15, sqT_ins hx14 e15 (e1315.sqT (by simp) ht13), ?_, ?_, ?_, ?_, sqT_ins hx14 e15 (SqT.of h14)⟩
  · exact e15.get (by simp only [List.mem_singleton]; intro z; rw [z] at htt13; rw [htt13] at h13; cases h13) (e1315.get0 htt13)
  · intro a ha c hc
    obtain ⟨r, hr, rfl, rfl⟩ := tab_all hrs ha ((sgn_perm s).mem_iff.mp hc)
    obtain ⟨p, z1, z2⟩ := hT10 r hr
    refine ⟨p, z1, ?_⟩
    show SqT K G3 p [vS (tbOf rs r.a r.c).1, .int (tbOf rs r.a r.c).2]
    rw [tb_of hrs.2.1 hr]
    exact sqT_ins hx14 e15 (e1315.sqT (by simp) (sqT_ins hx12 e13 (e1012.sqT (by simp) z2)))
  · exact e15.get (by simp only [List.mem_singleton]; intro z; rw [z] at hte13; rw [hte13] at h13; cases h13) (e1315.get0 hte13)
  · intro a ha
    obtain ⟨p, z1, z2⟩ := hE a ha
    exact ⟨p, z1, sqT_ins hx14 e15 (e1315.sqT (by simp) (sqT_ins hx12 e13 z2))⟩
end
end WB
namespace WB
open PySem PySem.Spec PyProof.Rows L2
def stp (M : LM) (z : List Nat × Int) (c : Nat) : List Nat × Int := ((M.tb z.1 c).1, z.2 + (M.tb z.1 c).2)
def run (M : LM) (a : List Nat) (w : List Nat) : List Nat × Int := w.foldl (stp M) (a, 0)
def rnd (M : LM) (a : List Nat) (w : List Nat) : List Nat × Int := ((M.en (run M a w).1).1, (run M a w).2 + (M.en (run M a w).1).2)
def orb (M : LM) (w : List Nat) : Nat → List Nat
  | 0 => M.st.headD []
  | i + 1 => (rnd M (orb M w i) w).1
def cnt (M : LM) (w : List Nat) (i : Nat) : Int := (rnd M (orb M w i) w).2
def inAb (M : LM) (w : List Nat) : Prop := 1 ≤ w.length ∧ w.length ≤ 600 ∧ ∀ c ∈ w, c ∈ M.ab
theorem run_in {M : LM} (g : GoodM M) : ∀ (w : List Nat) (z : List Nat × Int), z.1 ∈ M.st → (∀ c ∈ w, c ∈ M.ab) → (w.foldl (stp M) z).1 ∈ M.st
  | [], z, h, _ => h
  | c :: w, z, h, hw => run_in g w (stp M z c) (g.tb _ h c (hw c List.mem_cons_self)) fun d hd => hw d (List.mem_cons_of_mem _ hd)
theorem rnd_in {M : LM} (g : GoodM M) {w : List Nat} {a : List Nat} (ha : a ∈ M.st) (hw : ∀ c ∈ w, c ∈ M.ab) : (rnd M a w).1 ∈ M.st := g.en _ (run_in g w (a, 0) ha hw)
theorem orb_in {M : LM} (g : GoodM M) {w : List Nat} (hw : ∀ c ∈ w, c ∈ M.ab) : ∀ i, orb M w i ∈ M.st
  | 0 => by
    have := g.st.1
    match h : M.st, this with
    | a :: l, _ => unfold orb; rw [h]; exact List.mem_cons_self
  | i + 1 => rnd_in g (orb_in g hw i) hw
theorem orb_add {M : LM} {w : List Nat} {b n : Nat} (h : orb M w n = orb M w b) : ∀ i, orb M w (n + i) = orb M w (b + i)
  | 0 => h
  | i + 1 => by
    show (rnd M (orb M w (n + i)) w).1 = (rnd M (orb M w (b + i)) w).1
    rw [orb_add h i]
def plc (i n b : Nat) : Nat := if i < n then i else b + (i - b) % (n - b)
theorem plc_lt {i n b : Nat} (hb : b < n) : plc i n b < n := by
  unfold plc
  split
  · assumption
  · have := Nat.mod_lt (i - b) (show 0 < n - b by omega)
    omega
theorem orb_mul {M : LM} {w : List Nat} {b n : Nat} (hb : b < n) (h : orb M w n = orb M w b) (j : Nat) : ∀ k, orb M w (b + j + k * (n - b)) = orb M w (b + j)
  | 0 => by simp
  | k + 1 => by
    have e : b + j + (k + 1) * (n - b) = n + (j + k * (n - b)) := by rw [Nat.succ_mul]; omega
    rw [e, orb_add h, ← Nat.add_assoc, orb_mul hb h j k]
theorem orb_plc {M : LM} {w : List Nat} {b n : Nat} (hb : b < n) (h : orb M w n = orb M w b) (i : Nat) : orb M w (plc i n b) = orb M w i := by
  unfold plc
  split
  · rfl
  · have e : i = b + (i - b) % (n - b) + ((i - b) / (n - b)) * (n - b) := by
      have := Nat.mod_add_div (i - b) (n - b)
      rw [Nat.mul_comm] at this
      omega
    conv => rhs; rw [e]
    rw [orb_mul hb h]
theorem cnt_plc {M : LM} {w : List Nat} {b n : Nat} (hb : b < n) (h : orb M w n = orb M w b) (i : Nat) : cnt M w (plc i n b) = cnt M w i := by
  unfold cnt
  rw [orb_plc hb h]
def sp_Loop_round_from (K : PySem.W.Frag) : Sp := fun vs H Q _ => ∃ (x : Addr) (a w : List Nat), vs = [.ref x, vS a, vS w] ∧ ∃ M : LM, LoopAt K H x M ∧ GoodM M ∧ a ∈ M.st ∧ w.length ≤ 10000 ∧ (∀ c ∈ w, c ∈ M.ab) ∧ ∀ p H', Ex [] H H' → H' p = some (.tup [vS (rnd M a w).1, .int (rnd M a w).2]) → Q (.ref p) H'
def HisAt (H : Hp) (M : LM) (w : List Nat) (p : Addr) (n b : Nat) : Prop := ∃ q r, H p = some (.tup [.ref q, .ref r, .int b]) ∧ H q = some (.lst ((List.range n).map fun i => vS (orb M w i))) ∧ H r = some (.lst ((List.range n).map fun i => .int (cnt M w i)))
def sp_Loop_history (K : PySem.W.Frag) : Sp := fun vs H Q _ => ∃ (x : Addr) (w : List Nat), vs = [.ref x, vS w] ∧ ∃ M : LM, LoopAt K H x M ∧ GoodM M ∧ inAb M w ∧ ∀ p H' n b, Ex [] H H' → n ≤ 6 → b < n → orb M w n = orb M w b → HisAt H' M w p n b → Q (.ref p) H'
end WB
namespace WB
open PySem PySem.Spec PyProof.Rows L2
local macro_rules | `(tactic| walk_at "lit") => `(tactic| first | exact lit_abc | exact lit_empty)
local macro_rules | `(tactic| walk_at "nm") => `(tactic| focus first | exact List.not_mem_nil | (simp only [List.mem_singleton]; first | assumption | (exact Ne.symm (by assumption)) | (intro hz; subst hz; simp_all; done)))
local macro_rules | `(tactic| walk_at "hp") => `(tactic| first | assumption | (apply Ex.get0 (by assumption); walk_at "hp") | (apply Ex.get (by assumption); (walk_at "nm"); (walk_at "hp")))
local macro_rules | `(tactic| walk_at "sq") => `(tactic| first | assumption | (apply SqL.of; walk_at "hp") | (apply Ex.sqL (by assumption); (walk_at "nm"); (walk_at "sq")))
local macro_rules | `(tactic| walk_at "sqt") => `(tactic| first | assumption | (apply SqT.of; walk_at "hp") | (apply Ex.sqT (by assumption); (walk_at "nm"); (walk_at "sqt")))
local macro_rules | `(tactic| walk_at "sz") => `(tactic| focus ((with_reducible refine Nat.le_trans (m := 100000) ?_ (by decide)); first | omega | (simp; done) | (simp; omega)))
local macro_rules | `(tactic| walk_at "mul") => `(tactic| first | exact Or.inr ⟨by omega, by omega⟩ | exact Or.inl ⟨by omega, by omega⟩)
local macro_rules | `(tactic| walk_at "pool") => `(tactic| first | assumption | (apply PoolAt.ex (by assumption); (walk_at "nm"); (walk_at "pool")))
local macro_rules | `(tactic| walk_at "ring") => `(tactic| first | assumption | (apply RingAt.ex (by assumption); (walk_at "nm"); (walk_at "ring")))
local macro_rules | `(tactic| walk_at "st") => `(tactic| first
  | with_reducible refine s_seq ?_
  | with_reducible refine s_asg ?_
  | with_reducible refine s_gName ?_
  | with_reducible refine s_ret ?_
  | with_reducible refine s_ifS ?_
  | with_reducible refine s_next ?_
  | with_reducible refine s_op ?_
  | ((with_reducible apply s_var); exact rfl)
  | ((with_reducible apply s_cS); (walk_at "lit"))
  | with_reducible refine s_c ?_
  | with_reducible refine s_cb ?_
  | with_reducible refine s_cons ?_
  | with_reducible refine s_nil ?_
  | with_reducible refine s_un ?_
  | with_reducible refine s_call ?_
  | with_reducible refine s_test ?_
  | with_reducible refine s_tB ?_
  | with_reducible refine s_blQ ?_
  | with_reducible refine s_not ?_
  | with_reducible refine s_and ?_
  | with_reducible refine s_or ?_
  | with_reducible refine s_andV ?_
  | with_reducible refine s_orV ?_
  | with_reducible refine s_notV ?_
  | with_reducible refine s_ifE ?_
  | with_reducible refine s_chain ?_
  | ((with_reducible refine s_T ?_ ?_); (with_reducible exact rfl))
  | with_reducible refine s_nT ?_
  | with_reducible refine s_nF ?_
  | ((with_reducible refine s_F ?_ ?_); (with_reducible exact rfl))
  | ((with_reducible refine s_T ?_ ?_); assumption)
  | ((with_reducible refine s_F ?_ ?_); assumption)
  | ((with_reducible refine s_nB ?_ ?_); assumption)
  | ((with_reducible refine s_nA ?_ ?_); assumption)
  | ((with_reducible refine s_Td ?_ ?_); omega)
  | ((with_reducible refine s_Fd ?_ ?_); omega)
  | ((with_reducible refine s_nTd ?_ ?_); omega)
  | ((with_reducible refine s_nFd ?_ ?_); omega)
  | with_reducible refine s_sfld ?_
  | with_reducible refine s_addI ?_
  | with_reducible refine s_subI ?_
  | ((with_reducible refine s_mulI ?_ ?_); (walk_at "mul"))
  | ((with_reducible refine s_divI ?_ ?_); exact ⟨by omega, by omega⟩)
  | ((with_reducible refine s_modI ?_ ?_); omega)
  | ((with_reducible refine s_powI ?_ ?_); exact ⟨by decide, by decide, by decide⟩)
  | with_reducible refine s_ltI ?_
  | with_reducible refine s_leI ?_
  | with_reducible refine s_gtI ?_
  | with_reducible refine s_geI ?_
  | with_reducible refine s_negI ?_
  | with_reducible refine s_absI ?_
  | with_reducible refine s_intI ?_
  | with_reducible refine s_min2 ?_
  | with_reducible refine s_max2 ?_
  | with_reducible refine s_eqI ?_
  | with_reducible refine s_neI ?_
  | with_reducible refine s_eqS ?_
  | with_reducible refine s_neS ?_
  | with_reducible refine s_inSg ?_
  | with_reducible refine s_notInSg ?_
  | ((with_reducible refine s_addS ?_ ?_); (walk_at "sz"))
  | ((with_reducible refine s_lenS ?_ ?_); (walk_at "sz"))
  | ((with_reducible apply s_lenL); (walk_at "sq"))
  | ((with_reducible apply s_lenT); (walk_at "sqt"))
  | ((with_reducible apply s_ixL); (walk_at "sq"); exact rfl)
  | ((with_reducible apply s_ixT); (walk_at "sqt"); exact rfl)
  | with_reducible refine s_gSub ?_
  | ((with_reducible apply s_setL); (walk_at "hp"); (exact rfl); (intro _ _ _))
  | ((with_reducible refine s_alloc ?_ ?_); (walk_at "sz"); (intro _ _ _ _ _))
  | ((with_reducible refine s_divmod ?_ ?_); (exact ⟨by omega, PyProof.noPylong_small (by omega)⟩); (intro _ _ _ _ _))
  | ((with_reducible apply s_gTup); (walk_at "sqt"); (exact rfl))
  | ((with_reducible apply s_gLst); (walk_at "sq"); (exact rfl))
  | with_reducible refine s_gCons ?_
  | with_reducible refine s_gNil ?_
  | with_reducible refine s_lc ?_
  | ((with_reducible apply s_cat); (walk_at "hp"); (walk_at "hp"); (walk_at "sz"); (intro _ _ _ _ _))
  | ((with_reducible apply s_slL); (walk_at "sq"); (intro _ _ _ _ _))
  | with_reducible refine s_for ?_
  | with_reducible refine s_rng1 ?_
  | ((with_reducible refine s_rng1i ?_ ?_); (constructor <;> omega))
  | with_reducible refine s_rng2 ?_
  | ((with_reducible refine s_rng2i ?_ ?_); (refine ⟨?_, ?_, ?_, ?_⟩ <;> omega))
  | with_reducible refine s_iStr ?_
  | with_reducible refine s_iStrS ?_
  | with_reducible refine s_iList ?_
  | ((with_reducible apply s_iListA); (walk_at "sq"))
  | with_reducible refine s_iTup ?_
  | ((with_reducible apply s_iTupA); (walk_at "sqt"))
  | with_reducible refine s_sl ?_
  | with_reducible refine s_noPart ?_
  | with_reducible refine s_part ?_
  | with_reducible refine s_int1 ?_
  | ((with_reducible refine s_slS ?_ ?_); (walk_at "sz"))
  | with_reducible refine s_tup ?_
  | with_reducible refine s_lst ?_
  | with_reducible refine s_par ?_
  | with_reducible refine s_pair ?_
  | with_reducible refine s_M1 ?_
  | with_reducible refine s_isStr ?_
  | with_reducible refine s_revS ?_
  | ((with_reducible refine s_revS1 ?_ ?_); (walk_at "sz"))
  | with_reducible refine s_fldE ?_
  | with_reducible refine s_propE ?_
  | ((with_reducible refine u_draw ?_ ?_ ?_ ?_); omega; omega; (walk_at "pool"); (intro _ _ _ _ _ _))
  | ((with_reducible refine u_pool ?_); (intro _ _ _ _ _))
  | with_reducible refine u_is_integer ?_
  | with_reducible refine s_isiII ?_
  | with_reducible refine s_isiIB ?_
  | with_reducible refine s_isiSS ?_
  | ((with_reducible apply u_fldRing); assumption; (walk_at "ring"))
  | ((with_reducible apply u_textP); (walk_at "ring"))
  | ((with_reducible apply u_strRing); (walk_at "ring"))
  | ((with_reducible apply u_eqRing); (walk_at "ring"); (walk_at "ring"))
  | ((with_reducible apply u_isiRing); assumption; (walk_at "ring"))
  | ((with_reducible refine u_is_word ?_ ?_); omega; (intro _ _))
  | ((with_reducible refine u_turnings ?_ ?_); omega; (intro _ _ _ _ _))
  | with_reducible refine s_makeE ?_
  | with_reducible refine s_methE ?_)
local macro_rules | `(tactic| walk_at "go") => `(tactic| repeat (walk_at "st"))
local macro_rules | `(tactic| walk_at "exs") => `(tactic| first | exact Ex.rfl | assumption | (apply Ex.snoc (by assumption); walk_at "exs") | (apply Ex.snocW (by assumption); walk_at "exs"))
local macro_rules | `(tactic| walk_at "kind") => `(tactic| first | assumption | (apply KindAt.ex0 (by assumption); (walk_at "kind")) | (apply KindAt.exP (by assumption) (by assumption); (walk_at "kind")))
local macro_rules | `(tactic| walk_at "st") => `(tactic| first
  | with_reducible refine s_lenSet ?_
  | with_reducible refine s_drop ?_
  | with_reducible refine s_bm ?_
  | with_reducible refine s_notN ?_
  | with_reducible refine s_isN ?_
  | ((with_reducible apply s_tyL); (walk_at "hp"))
  | with_reducible refine s_enumT ?_
  | ((with_reducible apply s_enumTA); (walk_at "sqt"))
  | with_reducible refine s_lc2 ?_)
local macro_rules | `(tactic| walk_at "lit") => `(tactic| exact lit_MRK)
local macro_rules | `(tactic| walk_at "st") => `(tactic| first
  | with_reducible refine s_dcT ?_
  | with_reducible refine s_dc ?_)
def t_Loop_round_from (K : PySem.W.Frag) : TS :=
  (tSeq (tAsg (tC (.int 0)) (gName 3))
  (tSeq (tFor (iStr (tVar 2)) (gName 4) (tSeq (tAsg (tDGet (tFld K (tVar 0) "table") (tTup (tCons (tVar 1) (tCons (tVar 4) tNil)))) (gTup K 2 (gCons (gName 1) (gCons (gName 5) gNil))))
  (tAug 3 (tVar 5) (ipI fun i j => i + j))))
  (tSeq (tAsg (tDGet (tFld K (tVar 0) "ending") (tVar 1)) (gTup K 2 (gCons (gName 1) (gCons (gName 5) gNil))))
  (tRet (tTup (tCons (tVar 1) (tCons (tOp rAddI (tVar 3) (tVar 5)) tNil)))))))
def t_Loop_history (K : PySem.W.Frag) : TS :=
  (tSeq (tIfS (tNot (tB (tCall (sp_is_word K) [] E0 (tCons (tVar 1) (tCons (tFld K (tVar 0) "letters") tNil))))) tNever tNext)
  (tSeq (tPar 2 3 (tCons (tLst tNil) (tCons (tLst tNil) tNil)))
  (tSeq (tAsg (tOp (rIxT K) (tFld K (tVar 0) "order") (tC (.int 0))) (gName 4))
  (tSeq (tWhile (tTest (tOp (rIn K true) (tVar 4) (tVar 2))) (tSeq (tDrop (tBM K "list" rAppend (tVar 2) (tCons (tVar 4) tNil)))
  (tSeq (tAsg (tMeth (He.ga K "Loop") "round_from" (sp_Loop_round_from K) [] E0 (tVar 0) (tCons (tVar 4) (tCons (tVar 1) tNil))) (gTup K 2 (gCons (gName 4) (gCons (gName 5) gNil))))
  (tDrop (tBM K "list" rAppend (tVar 3) (tCons (tVar 5) tNil))))))
  (tRet (tTup (tCons (tVar 2) (tCons (tVar 3) (tCons (tBM K "list" (rIndex K) (tVar 2) (tCons (tVar 4) tNil)) tNil)))))))))
section
variable {K : PySem.W.Frag} {vs : List V} {H H' : Hp} {Q : VK} {E : XK} {x : Addr} {M : LM}
theorem u_fLetters (F : LoopK K) (h : LoopAt K H x M) (k : Q (vS M.ab) H) : FldG K "letters" (.ref x) H Q := by
  obtain ⟨dx, o, tt, te, tm, kt, ke, h1, _⟩ := h
  exact ⟨x, _, dx, _, _, rfl, h1, F.cl, F.n1, rfl, k⟩
theorem u_fOrder (F : LoopK K) (h : LoopAt K H x M) (k : ∀ o, SqT K H o (M.st.map vS) → Q (.ref o) H) : FldG K "order" (.ref x) H Q := by
  obtain ⟨dx, o, tt, te, tm, kt, ke, h1, h2, _⟩ := h
  exact ⟨x, _, dx, _, _, rfl, h1, F.cl, F.n2, rfl, k o h2⟩
theorem u_fTable (F : LoopK K) (h : LoopAt K H x M) (k : ∀ tt kt, H tt = some (.dT kt) → TabOk K H kt M → Q (.ref tt) H) : FldG K "table" (.ref x) H Q := by
  obtain ⟨dx, o, tt, te, tm, kt, ke, h1, h2, h3, h4, _⟩ := h
  exact ⟨x, _, dx, _, _, rfl, h1, F.cl, F.n3, rfl, k tt kt h3 h4⟩
theorem u_fEnding (F : LoopK K) (h : LoopAt K H x M) (k : ∀ te ke, H te = some (.dK ke) → EndOk K H ke M → Q (.ref te) H) : FldG K "ending" (.ref x) H Q := by
  obtain ⟨dx, o, tt, te, tm, kt, ke, h1, h2, h3, h4, h5, h6, _⟩ := h
  exact ⟨x, _, dx, _, _, rfl, h1, F.cl, F.n4, rfl, k te ke h5 h6⟩
theorem u_fMarked (F : LoopK K) (h : LoopAt K H x M) (k : ∀ tm, SqT K H tm (M.ok.map vS) → Q (.ref tm) H) : FldG K "marked" (.ref x) H Q := by
  obtain ⟨dx, o, tt, te, tm, kt, ke, h1, h2, h3, h4, h5, h6, h7⟩ := h
  exact ⟨x, _, dx, _, _, rfl, h1, F.cl, F.n5, rfl, k tm h7⟩
theorem s_dget {td ty : TE} {σ : St} (k : td σ H fun x H1 => ty σ H1 fun y H2 => ∃ a v, x = .ref a ∧ DGet H2 a y (some v) ∧ Q v H2) : tDGet td ty σ H Q := k
theorem s_getT {C : V → Prop} {tt q : Addr} {kt : List (List Key × V)} {a : List Nat} {c : Nat} (h1 : H tt = some (.dT kt)) (h2 : TabOk K H kt M) (ha : a ∈ M.st) (hc : c ∈ M.ab) (hq : H q = some (.tup [vS a, vS [c]])) (k : ∀ p, SqT K H p [vS (M.tb a c).1, .int (M.tb a c).2] → C (.ref p)) : ∃ b v, V.ref tt = .ref b ∧ DGet H b (.ref q) (some v) ∧ C v := by
  obtain ⟨p, z1, z2⟩ := h2 a ha c hc
  exact ⟨tt, .ref p, rfl, by rw [← z1]; exact DGet.t h1 (k := [kS a, kS [c]]) hq, k p z2⟩
theorem s_getE {C : V → Prop} {te : Addr} {ke : List (Key × V)} {a : List Nat} (h1 : H te = some (.dK ke)) (h2 : EndOk K H ke M) (ha : a ∈ M.st) (k : ∀ p, SqT K H p [vS (M.en a).1, .int (M.en a).2] → C (.ref p)) : ∃ b v, V.ref te = .ref b ∧ DGet H b (vS a) (some v) ∧ C v := by
  obtain ⟨p, z1, z2⟩ := h2 a ha
  exact ⟨te, .ref p, rfl, by rw [← z1]; exact DGet.k h1 (k := kS a), k p z2⟩
theorem pure_Loop_round_from (F : LoopK K) (h : sp_Loop_round_from K vs H Q E) : t_Loop_round_from K (E1 Q) (start ["self", "state", "text", "count", "sign", "amount"] vs) H := by
  obtain ⟨x, a, w, rfl, M, hx, g, ha, hl, hw, k⟩ := h
  show t_Loop_round_from K (E1 Q) [some (.ref x), some (vS a), some (vS w), none, none, none] H
  unfold t_Loop_round_from
  walk_at "go"
  have wk := walk_str (z := S w)
  have hs : (S w).cps.size = w.length := by simp [S]
  rw [hs] at wk
  refine for_run wk (fun i σ H2 => ∃ x4 x5, σ = [some (.ref x), some (vS (run M a (w.take i)).1), some (vS w), some (.int (run M a (w.take i)).2), x4, x5] ∧ Ex [] H H2) ⟨_, _, rfl, Ex.rfl⟩ (fun _ _ _ _ _ => trivial) ?_ ?_
  · rintro i y σ H2 H3 hi ⟨x4, x5, rfl, e2⟩ ⟨rfl, c, hc, ev⟩
    have ev : y = vS [c] := ev
    subst ev
    have hc : w[i]? = some c := by simpa [S] using hc
    have hcw : c ∈ w := List.mem_of_getElem? hc
    have ht1 : w.take (i + 1) = w.take i ++ [c] := by rw [List.take_add_one, hc]; rfl
    have hr1 : run M a (w.take (i + 1)) = stp M (run M a (w.take i)) c := by unfold run; rw [ht1, List.foldl_append]; rfl
    have hin : (run M a (w.take i)).1 ∈ M.st := run_in g _ (a, 0) ha fun d hd => hw d (List.mem_of_mem_take hd)
    walk_at "go"
    refine s_dget ?_
    walk_at "go"
    refine u_fTable F (hx.ex0 e2) fun tt kt h3 h4 => ?_
    walk_at "go"
    rename_i q H4 nq e4 h5
    refine s_getT (e4.get0 h3) (h4.ex0 e4) hin (hw c hcw) h5 fun p hp => ?_
    walk_at "go"
    refine ⟨_, rfl, ?_⟩
    walk_at "go"
    refine ⟨_, _, rfl, rfl, ?_⟩
    rw [hr1]
    exact ⟨_, _, rfl, e2.trans e4⟩
  · rintro σ H2 ⟨x4, x5, rfl, e2⟩
    rw [List.take_length]
    have hin : (run M a w).1 ∈ M.st := run_in g _ (a, 0) ha hw
    walk_at "go"
    refine s_dget ?_
    walk_at "go"
    refine u_fEnding F (hx.ex0 e2) fun te ke h3 h4 => ?_
    walk_at "go"
    refine s_getE h3 h4 hin fun p hp => ?_
    walk_at "go"
    rename_i q H4 nq e4 h5
    exact k q H4 (e2.trans e4) h5
theorem first_ix {α : Type} [DecidableEq α] {a : α} : ∀ {ls : List α}, a ∈ ls → ∃ j : Nat, ls[j]? = some a ∧ ∀ (m : Nat) z, m < j → ls[m]? = some z → z ≠ a
  | x :: ls, h => by
    by_cases e : x = a
    · exact ⟨0, by rw [e]; rfl, fun m z hm => absurd hm (by omega)⟩
    · obtain ⟨j, h1, h2⟩ := first_ix (ls := ls) ((List.mem_cons.mp h).resolve_left fun z => e z.symm)
      refine ⟨j + 1, h1, fun m z hm hz => ?_⟩
      match m, hm, hz with
      | 0, _, hz => cases hz; exact e
      | m + 1, hm, hz => exact h2 m z (by omega) hz
theorem s_indexS {q : Addr} {ls : List (List Nat)} {a : List Nat} (h : SqL K H q (ls.map vS)) (ha : a ∈ ls) (k : ∀ j : Nat, ls[j]? = some a → Q (.int (j : Nat)) H) : rIndex K (.ref q) [vS a] H Q := by
  obtain ⟨j, hj, hno⟩ := first_ix ha
  refine ⟨q, _, _, j, vS a, rfl, rfl, h, rfl, flat_S ls, by rw [List.getElem?_map, hj]; rfl, by rw [eqV_S]; simp, fun m z hm hz => ?_, k _ hj⟩
  rw [List.getElem?_map] at hz
  obtain ⟨b, hb, rfl⟩ := Option.map_eq_some_iff.mp hz
  rw [eqV_S]
  exact decide_eq_false (hno m b hm hb)
theorem u_methLoop {m : Str} {sp : Sp} {dvs : List V} {tr : TA} {σ : St} (h : LoopAt K H x M) (hm : List.lookup m [(("letters" : Str), V.non), ("order", .non), ("table", .non), ("ending", .non), ("marked", .non)] = none) (k : tr σ H fun vs H2 => sp (.ref x :: (vs ++ dvs)) H2 Q E) : MethG (He.ga K "Loop") m sp dvs E tr σ (.ref x) H Q := by
  obtain ⟨dx, o, tt, te, tm, kt, ke, h1, _⟩ := h
  refine ⟨x, dx, _, rfl, h1, ?_, k⟩
  simp only [List.lookup] at hm ⊢
  revert hm
  cases (m == ("letters" : Str)) <;> cases (m == ("order" : Str)) <;> cases (m == ("table" : Str)) <;> cases (m == ("ending" : Str)) <;> cases (m == ("marked" : Str)) <;> simp
theorem orbs_len {w : List Nat} (g : GoodM M) (hw : ∀ c ∈ w, c ∈ M.ab) {n : Nat} (hn : ((List.range n).map (orb M w)).Nodup) : n ≤ 6 := by
  have := nodup_le _ M.st hn fun a ha => by obtain ⟨i, _, rfl⟩ := List.mem_map.mp ha; exact orb_in g hw i
  rw [List.length_map, List.length_range] at this
  exact Nat.le_trans this g.st.2.1
theorem pure_Loop_history (F : LoopK K) (h : sp_Loop_history K vs H Q E) : t_Loop_history K (E1 Q) (start ["self", "text", "states", "counts", "state", "count"] vs) H := by
  obtain ⟨x, w, rfl, M, hx, g, ⟨w1, w2, w3⟩, k⟩ := h
  show t_Loop_history K (E1 Q) [some (.ref x), some (vS w), none, none, none, none] H
  unfold t_Loop_history
  walk_at "go"
  refine u_fLetters F hx ?_
  walk_at "go"
  refine u_is_wordF (by omega) fun H1 e1 => ?_
  rw [isWord_mk w1 w2 w3]
  walk_at "go"
  rename_i q H2 nq e2 h2 r H3 nr e3 h3
  have hx3 : LoopAt K H3 x M := ((hx.ex0 e1).ex0 e2).ex0 e3
  refine u_fOrder F hx3 fun o ho => ?_
  walk_at "go"
  obtain ⟨a0, l0, hst⟩ : ∃ a l, M.st = a :: l := List.exists_cons_of_ne_nil (List.length_pos_iff.mp g.st.1)
  refine s_ixT (v := vS (orb M w 0)) ho (atI_of (by omega) (by unfold orb; rw [hst]; rfl)) ?_
  have hq : H q = none := e1.free nq
  have hr : H r = none := e1.free (e2.free nr)
  have hqr : q ≠ r := fun z => by rw [← z, h2] at nr; cases nr
  have e03 : Ex [] H H3 := (e1.trans e2).trans e3
  have h23 := e3.get0 h2
  clear e1 e2 e3 h2 nq nr
  repeat (first | with_reducible refine s_gName ?_ | with_reducible refine s_next ?_ | with_reducible refine s_seq ?_)
  refine ⟨fun m σ G => ∃ (n : Nat) (x5 : Option V), m = 7 - n ∧ ((List.range n).map (orb M w)).Nodup ∧ σ = [some (.ref x), some (vS w), some (.ref q), some (.ref r), some (vS (orb M w n)), x5] ∧ Ex [] H G ∧ G q = some (.lst (((List.range n).map (orb M w)).map vS)) ∧ G r = some (.lst ((List.range n).map fun i => .int (cnt M w i))), ⟨7, 0, none, rfl, by simp, rfl, e03, h23, h3⟩, ?_⟩
  rintro m σ G ⟨n, x5, rfl, hn, rfl, e, gq, gr⟩
  have hn6 := orbs_len g w3 hn
  walk_at "go"
  refine s_notInL (ls := (List.range n).map (orb M w)) (SqL.of gq) ?_
  walk_at "go"
  by_cases hin : orb M w n ∈ (List.range n).map (orb M w)
  · refine s_F (by rw [decide_eq_true hin]; rfl) ?_
    walk_at "go"
    refine s_indexS (SqL.of gq) hin fun j hj => ?_
    walk_at "go"
    rename_i p G2 np e2 h2
    have hjn : j < n := by
      have := (List.getElem?_eq_some_iff.mp hj).1
      simpa using this
    rw [List.getElem?_map, List.getElem?_range hjn] at hj
    refine k p G2 n j (e.trans e2) hn6 hjn (Option.some.inj hj).symm ⟨q, r, h2, ?_, e2.get0 gr⟩
    rw [e2.get0 gq, List.map_map]
    rfl
  · refine s_T (by rw [decide_eq_false hin]; rfl) ?_
    refine ⟨fun σ G => ∃ (x5 : Option V), ((List.range (n + 1)).map (orb M w)).Nodup ∧ σ = [some (.ref x), some (vS w), some (.ref q), some (.ref r), some (vS (orb M w (n + 1))), x5] ∧ Ex [] H G ∧ G q = some (.lst (((List.range (n + 1)).map (orb M w)).map vS)) ∧ G r = some (.lst ((List.range (n + 1)).map fun i => .int (cnt M w i))), fun σ' G' ⟨x5, z1, z2, z3, z4, z5⟩ => ⟨7 - (n + 1), by omega, n + 1, x5, rfl, z1, z2, z3, z4, z5⟩, ?_⟩
    walk_at "go"
    have hz : n < sizeLine := Nat.lt_of_le_of_lt hn6 (by decide)
    refine s_append gq (by simp only [List.length_map, List.length_range]; exact hz) fun G2 e2 h2 => ?_
    have e02 : Ex [] H G2 := Ex.drop hq e e2
    have gr2 := e2.get (by simpa using Ne.symm hqr) gr
    walk_at "go"
    refine u_methLoop (hx.ex0 e02) rfl ?_
    walk_at "go"
    refine ⟨x, orb M w n, w, rfl, M, hx.ex0 e02, g, orb_in g w3 n, by omega, w3, fun p G3 e3 h3 => ?_⟩
    have gr3 := e3.get0 gr2
    walk_at "go"
    refine s_append gr3 (by simp only [List.length_map, List.length_range]; exact hz) fun G4 e4 h4 => ?_
    refine ⟨_, ?_, rfl, Ex.drop hr (e02.trans e3) e4, ?_, ?_⟩
    · rw [List.range_succ, List.map_append]
      exact List.nodup_append.mpr ⟨hn, by simp, fun a ha b hb z => hin (by simp at hb; rw [← hb, ← z]; exact ha)⟩
    · rw [e4.get (by simpa using hqr) (e3.get0 h2), List.range_succ, List.map_append, List.map_append]
      rfl
    · rw [h4, List.range_succ, List.map_append]
      rfl
end
end WB
namespace WB
open PySem PySem.Spec PyProof.Rows L2
def sp_Loop_answer (K : PySem.W.Frag) : Sp := fun vs H Q _ => ∃ (x : Addr) (w : List Nat) (m : Int), vs = [.ref x, vS w, .int m] ∧ ∃ M : LM, LoopAt K H x M ∧ GoodM M ∧ inAb M w ∧ 1 ≤ m ∧ ∀ p H', Ex [] H H' → H' p = some (.tup [.int (cnt M w (m.toNat - 1)), .bl (decide (orb M w m.toNat ∈ M.ok))]) → Q (.ref p) H'
end WB
namespace WB
open PySem PySem.Spec PyProof.Rows L2
def Tups (K : PySem.W.Frag) (H : Hp) (xs : List V) (ls : List (List V)) : Prop := xs.length = ls.length ∧ ∀ (i : Nat) x l, xs[i]? = some x → ls[i]? = some l → ∃ p, x = .ref p ∧ SqT K H p l
section
variable {K : PySem.W.Frag} {H H' : Hp} {Q : VK} {E : XK} {t a x : Addr} {M : LM} {xs : List V} {ls : List (List V)}
theorem TupsAt.mk (h : SqT K H t xs) (h2 : Tups K H xs ls) : TupsAt K H t ls := ⟨xs, h, h2.1, h2.2⟩
theorem Tups.ex0 (e : Ex [] H H') (h : Tups K H xs ls) : Tups K H' xs ls := ⟨h.1, fun i x l h1 h2 => by
  obtain ⟨p, h3, h4⟩ := h.2 i x l h1 h2
  exact ⟨p, h3, e.sqT (by simp) h4⟩⟩
theorem Tups.nil : Tups K H [] [] := ⟨rfl, by simp⟩
theorem Tups.snoc {p : Addr} {l : List V} (h : Tups K H xs ls) (hp : SqT K H p l) : Tups K H (xs ++ [.ref p]) (ls ++ [l]) := by
  refine ⟨by simp [h.1], fun i x m h1 h2 => ?_⟩
  by_cases hi : i < xs.length
  · rw [List.getElem?_append_left hi] at h1
    rw [List.getElem?_append_left (by rw [← h.1]; exact hi)] at h2
    exact h.2 i x m h1 h2
  · rw [List.getElem?_append_right (by omega)] at h1
    rw [List.getElem?_append_right (by rw [← h.1]; omega)] at h2
    have : i = xs.length := by
      have := (List.getElem?_eq_some_iff.mp h1).1
      simp at this
      omega
    subst this
    rw [Nat.sub_self] at h1
    rw [h.1, Nat.sub_self] at h2
    simp at h1 h2
    subst h1 h2
    exact ⟨p, rfl, hp⟩
theorem Tups.app {ys : List V} {ms : List (List V)} (h : Tups K H xs ls) (h' : Tups K H ys ms) : Tups K H (xs ++ ys) (ls ++ ms) := by
  refine ⟨by simp [h.1, h'.1], fun i x m h1 h2 => ?_⟩
  by_cases hi : i < xs.length
  · rw [List.getElem?_append_left hi] at h1
    rw [List.getElem?_append_left (by rw [← h.1]; exact hi)] at h2
    exact h.2 i x m h1 h2
  · rw [List.getElem?_append_right (by omega)] at h1
    rw [List.getElem?_append_right (by rw [← h.1]; omega), ← h.1] at h2
    exact h'.2 _ x m h1 h2
theorem sqT_upd {D : Addr} {o ys : List V} (hd : H D = none ∨ ∃ l, H D = some (.lst l)) (h : SqT K H t ys) : SqT K (upd H D (.lst o)) t ys := by
  rcases hd with hd | ⟨l, hd⟩
  · exact (Ex.new (m := []) hd).sqT (by simp) h
  · exact sqT_lst hd (Ex.put (by simp)) h
theorem Tups.upd {D : Addr} {o : List V} (hd : H D = none ∨ ∃ l, H D = some (.lst l)) (h : Tups K H xs ls) : Tups K (L2.upd H D (.lst o)) xs ls := ⟨h.1, fun i x l h1 h2 => by
  obtain ⟨p, h3, h4⟩ := h.2 i x l h1 h2
  exact ⟨p, h3, sqT_upd hd h4⟩⟩
theorem lc_tups {α : Type} {J : It} {G : Hp → Prop} {Y : Nat → Hp → V → Hp → Prop} {j n : Nat} {te : TE} {σ : St} {l : List α} (w : Walk J n G Y) (hl : l.length = n) (hn : n ≤ 100000) (vl : α → V) (f : α → List V) (hY : ∀ i H1 x H2, i < n → Y i H1 x H2 → H2 = H1 ∧ ∃ a, l[i]? = some a ∧ x = vl a) (hG : ∀ H1, Ex [] H H1 → G H1)
    (h : ∀ a H1 (C : VK), a ∈ l → Ex [] H H1 → (∀ p H2, Ex [] H1 H2 → SqT K H2 p (f a) → C (.ref p) H2) → te ((wipe σ [j]).set j (some (vl a))) H1 C)
    (k : ∀ D H' xs, H D = none → Ex [] H H' → H' D = some (.lst xs) → Tups K H' xs (l.map f) → Q (.ref D) H') : LcW J (gName j) tYes te [j] σ H Q := by
  refine lc_run w hn [] (fun _ => True) (fun i acc H1 => Tups K H1 acc ((l.take i).map f)) (by simp) trivial (by simpa using Tups.nil) (fun _ _ _ _ _ => trivial) (fun _ _ _ _ _ hd h => h.upd hd) hG ?_ ?_
  · intro i acc x H1 H2 C1 C0 hi e _ ha hy k1 k0
    obtain ⟨rfl, a, hx, rfl⟩ := hY i H1 x H2 hi hy
    refine ⟨wipe1 _ _ _, s_yes (s_T rfl ?_)⟩
    refine h a _ C1 (List.mem_of_getElem? hx) e fun p H5 e5 hp => k1 _ H5 e5 trivial ?_
    rw [List.take_add_one, hx, List.map_append]
    exact (ha.ex0 e5).snoc hp
  · intro D H' ys hD e _ hd _ ha
    rw [← hl, List.take_length] at ha
    exact k D H' ys hD e hd ha
theorem lc_tupsT {b : Addr} {l : List (List Nat)} {j : Nat} {te : TE} {σ : St} (hq : SqT K H b (l.map vS)) (hn : l.length ≤ 100000) (f : List Nat → List V)
    (h : ∀ a H1 (C : VK), a ∈ l → Ex [] H H1 → (∀ p H2, Ex [] H1 H2 → SqT K H2 p (f a) → C (.ref p) H2) → te ((wipe σ [j]).set j (some (vS a))) H1 C)
    (k : ∀ D H' xs, H D = none → Ex [] H H' → H' D = some (.lst xs) → Tups K H' xs (l.map f) → Q (.ref D) H') : LcW (Itt K b) (gName j) tYes te [j] σ H Q :=
  lc_tups (l := l) (walk_tup (xs := l.map vS)) (by simp) (by simpa using hn) vS f (fun i H1 x H2 hi hy => ⟨hy.1, by
    have h2 := hy.2
    rw [List.getElem?_map] at h2
    obtain ⟨a, h3, h4⟩ := Option.map_eq_some_iff.mp h2
    exact ⟨a, h3, h4.symm⟩⟩) (fun H1 e => e.sqT (by simp) hq) h k
theorem lc2_tups {o : Addr} {l : List (List Nat)} {m : List Nat} {j1 j2 : Nat} {wi : TI} {te : TE} {σ : St} (ne : j1 ≠ j2) (ho : SqT K H o (l.map vS)) (hl : l.length ≤ 600) (hm : m.length ≤ 600) (f : List Nat → Nat → List V)
    (hw : ∀ a H1 (R : It → Hp → Prop), Ex [] H H1 → R (Its (S m)) H1 → wi ((wipe σ [j1, j2]).set j1 (some (vS a))) H1 R)
    (h : ∀ a c H1 (C : VK), a ∈ l → c ∈ m → Ex [] H H1 → (∀ p H2, Ex [] H1 H2 → SqT K H2 p (f a c) → C (.ref p) H2) → te ((wipe ((wipe σ [j1, j2]).set j1 (some (vS a))) [j2]).set j2 (some (vS [c]))) H1 C)
    (q : ∀ D H' xs, H D = none → Ex [] H H' → H' D = some (.lst xs) → Tups K H' xs (l.flatMap fun a => m.map (f a)) → Q (.ref D) H') : Lc2W (Itt K o) (gName j1) tYes wi (gName j2) tYes te [j1, j2] [j2] σ H Q := by
  intro D hD
  have hs : ∀ z : List Nat, (S z).cps.size = z.length := fun z => by simp [S]
  have w1 := walk_tup (K := K) (a := o) (xs := l.map vS)
  rw [List.length_map] at w1
  have w2 := walk_str (z := S m)
  rw [hs] at w2
  have hso : ∀ {H1 : Hp}, Ex [] H H1 → SqT K H1 o (l.map vS) := fun e => e.sqT (by simp) ho
  have len : ∀ i, ((l.take i).flatMap fun a => m.map (f a)).length ≤ 360000 := fun i => by
    have : ∀ l : List (List Nat), (l.flatMap fun a => m.map (f a)).length = l.length * m.length := by
      intro l
      induction l with
      | nil => simp
      | cons a l ih => rw [List.flatMap_cons, List.length_append, ih, List.length_map, List.length_cons, Nat.succ_mul, Nat.add_comm]
    rw [this]
    exact Nat.mul_le_mul (Nat.le_trans (by rw [List.length_take]; omega) hl) hm
  refine ⟨fun i r H' => r = l.length - i ∧ i ≤ l.length ∧ Ex [] H H' ∧ ∃ xs, H' D = some (.lst xs) ∧ Tups K H' xs ((l.take i).flatMap fun a => m.map (f a)), ⟨_, rfl, Nat.zero_le _, Ex.new hD, [], upd_same, by simpa using Tups.nil⟩, ?_⟩
  rintro i r H1 ⟨rfl, hi, e1, xs, h1, t1⟩
  by_cases hlt : i < l.length
  rotate_left
  · have : i = l.length := by omega
    subst this
    rw [List.take_length] at t1
    exact .inl ⟨w1.stops _ (hso e1), q D H1 xs hD e1 h1 t1⟩
  refine .inr ⟨w1.goes _ _ hlt (hso e1), fun H' => Ex [] H H' ∧ ∃ xs, H' D = some (.lst xs) ∧ Tups K H' xs ((l.take (i + 1)).flatMap fun a => m.map (f a)), fun H' hn => ⟨_, by omega, rfl, by omega, hn.1, hn.2⟩, fun x H2 hy => ?_⟩
  obtain ⟨rfl, hx⟩ := w1.yields _ _ _ _ hlt (hso e1) hy
  rw [List.getElem?_map] at hx
  obtain ⟨a, ha, rfl⟩ := Option.map_eq_some_iff.mp hx
  have htk : ((l.take (i + 1)).flatMap fun a => m.map (f a)) = ((l.take i).flatMap fun a => m.map (f a)) ++ m.map (f a) := by
    rw [List.take_add_one, ha, List.flatMap_append]
    simp
  refine ⟨?_, ?_⟩
  · show (((((σ.set j2 none).set j1 none).set j1 (some (vS a))).set j2 none).set j1 none) = (σ.set j2 none).set j1 none
    rw [List.set_set, List.set_comm (l := σ.set j2 none) _ _ ne, List.set_set, List.set_set]
  refine s_yes (s_T rfl ?_)
  refine hw a _ _ e1 ?_
  refine ⟨fun j r H' => r = m.length - j ∧ j ≤ m.length ∧ Ex [] H H' ∧ ∃ xs, H' D = some (.lst xs) ∧ Tups K H' xs (((l.take i).flatMap fun a => m.map (f a)) ++ (m.take j).map (f a)), ⟨_, rfl, Nat.zero_le _, e1, xs, h1, by simpa using t1⟩, ?_⟩
  rintro j r H3 ⟨rfl, hj, e3, ys, h3, t3⟩
  by_cases hlt2 : j < m.length
  rotate_left
  · have : j = m.length := by omega
    subst this
    rw [List.take_length, ← htk] at t3
    exact .inl ⟨w2.stops _ trivial, e3, ys, h3, t3⟩
  refine .inr ⟨w2.goes _ _ hlt2 trivial, fun H' => Ex [] H H' ∧ ∃ xs, H' D = some (.lst xs) ∧ Tups K H' xs (((l.take i).flatMap fun a => m.map (f a)) ++ (m.take (j + 1)).map (f a)), fun H' hn => ⟨_, by omega, rfl, by omega, hn.1, hn.2⟩, fun x H4 hy => ?_⟩
  obtain ⟨rfl, d, hd, rfl⟩ := w2.yields _ _ _ _ hlt2 trivial hy
  have hd : m[j]? = some d := by simpa [S] using hd
  refine ⟨wipe1 _ _ _, s_yes (s_T rfl ?_)⟩
  refine h a d _ _ (List.mem_of_getElem? ha) (List.mem_of_getElem? hd) e3 fun p H5 e5 hp => ⟨ys, e5 D _ (by simp) h3, ?_, ?_, ys ++ [.ref p], upd_same, ?_⟩
  · have := t3.1
    rw [this, List.length_append, List.length_map, List.length_take]
    have := len i
    exact Nat.lt_of_le_of_lt (show _ ≤ 361000 by omega) (by decide)
  · intro b o _ hb
    rw [upd_ne (ne_of_none hb hD)]
    exact e5 b o (by simp) (e3 b o (by simp) hb)
  · refine Tups.upd (.inr ⟨ys, e5 D _ (by simp) h3⟩) ?_
    rw [List.take_add_one, hd, List.map_append, ← List.append_assoc]
    exact (t3.ex0 e5).snoc hp
theorem s_catA {b : Addr} {ys : List V} (h1 : SqT K H a xs) (h2 : SqT K H b ys) (hl : xs.length + ys.length ≤ 1000) (hx : xs ≠ []) (hy : ys ≠ []) (k : ∀ p H2, H p = none → Ex [] H H2 → H2 p = some (.tup (xs ++ ys)) → Q (.ref p) H2) : rCatA K (.ref a) (.ref b) H Q :=
  ⟨a, b, xs, ys, rfl, rfl, h1, h2, Nat.le_trans hl (by decide), fun e => absurd e hx, fun _ e => absurd e hy, fun _ _ => s_new k⟩
theorem u_place_of {i N : Int} {n b : Nat} (hN : N = (n : Nat)) (h0 : 0 ≤ i) (hb : b < n) (k : Q (.int (plc i.toNat n b : Nat)) H) : sp_place_of K ([.int i, .int N, .int (b : Nat)] ++ []) H Q E := by
  refine ⟨i, N, b, rfl, by omega, ?_⟩
  have e : (if i < N then i else (b : Int) + (i - b) % (N - b)) = (plc i.toNat n b : Nat) := by
    unfold plc
    split
    · rw [if_pos (by omega)]; omega
    · rw [if_neg (by omega), hN]
      have h1 : i - (b : Int) = ((i.toNat - b : Nat) : Int) := by omega
      have h2 : (n : Int) - (b : Int) = ((n - b : Nat) : Int) := by omega
      rw [h1, h2]
      push_cast
      omega
  rw [e]
  exact k
def rwsOf (M : LM) : List Rw := M.st.flatMap fun a => M.ab.map fun c => ⟨a, c, (M.tb a c).1, (M.tb a c).2⟩
def tnsOf (M : LM) : List Tn := M.st.map fun a => ⟨a, (M.en a).1, (M.en a).2⟩
def LRowAt (K : PySem.W.Frag) (H : Hp) (p : Addr) (M : LM) : Prop := ∃ o r t y, SqT K H p [vS M.ab, .ref o, .ref r, .ref t, .ref y] ∧ SqT K H o (M.st.map vS) ∧ TupsAt K H r ((rwsOf M).map rwV) ∧ TupsAt K H t ((tnsOf M).map tnV) ∧ SqT K H y (M.ok.map vS)
theorem LRowAt.ex0 {p : Addr} (e : Ex [] H H') (h : LRowAt K H p M) : LRowAt K H' p M := by
  obtain ⟨o, r, t, y, h1, h2, h3, h4, h5⟩ := h
  exact ⟨o, r, t, y, e.sqT (by simp) h1, e.sqT (by simp) h2, h3.ex0 e, h4.ex0 e, e.sqT (by simp) h5⟩
def sp_Loop_rows (K : PySem.W.Frag) : Sp := fun vs H Q _ => ∃ x : Addr, vs = [.ref x] ∧ ∃ M : LM, LoopAt K H x M ∧ GoodM M ∧ ∀ p H', Ex [] H H' → TupsAt K H' p ((rwsOf M).map rwV) → Q (.ref p) H'
def sp_Loop_turns (K : PySem.W.Frag) : Sp := fun vs H Q _ => ∃ x : Addr, vs = [.ref x] ∧ ∃ M : LM, LoopAt K H x M ∧ GoodM M ∧ ∀ p H', Ex [] H H' → TupsAt K H' p ((tnsOf M).map tnV) → Q (.ref p) H'
def sp_Loop_row (K : PySem.W.Frag) : Sp := fun vs H Q _ => ∃ x : Addr, vs = [.ref x] ∧ ∃ M : LM, LoopAt K H x M ∧ GoodM M ∧ ∀ p H', Ex [] H H' → LRowAt K H' p M → Q (.ref p) H'
end
end WB
namespace WB
open PySem PySem.Spec PyProof.Rows L2
local macro_rules | `(tactic| walk_at "lit") => `(tactic| first | exact lit_abc | exact lit_empty)
local macro_rules | `(tactic| walk_at "nm") => `(tactic| focus first | exact List.not_mem_nil | (simp only [List.mem_singleton]; first | assumption | (exact Ne.symm (by assumption)) | (intro hz; subst hz; simp_all; done)))
local macro_rules | `(tactic| walk_at "hp") => `(tactic| first | assumption | (apply Ex.get0 (by assumption); walk_at "hp") | (apply Ex.get (by assumption); (walk_at "nm"); (walk_at "hp")))
local macro_rules | `(tactic| walk_at "sq") => `(tactic| first | assumption | (apply SqL.of; walk_at "hp") | (apply Ex.sqL (by assumption); (walk_at "nm"); (walk_at "sq")))
local macro_rules | `(tactic| walk_at "sqt") => `(tactic| first | assumption | (apply SqT.of; walk_at "hp") | (apply Ex.sqT (by assumption); (walk_at "nm"); (walk_at "sqt")))
local macro_rules | `(tactic| walk_at "sz") => `(tactic| focus ((with_reducible refine Nat.le_trans (m := 100000) ?_ (by decide)); first | omega | (simp; done) | (simp; omega)))
local macro_rules | `(tactic| walk_at "mul") => `(tactic| first | exact Or.inr ⟨by omega, by omega⟩ | exact Or.inl ⟨by omega, by omega⟩)
local macro_rules | `(tactic| walk_at "pool") => `(tactic| first | assumption | (apply PoolAt.ex (by assumption); (walk_at "nm"); (walk_at "pool")))
local macro_rules | `(tactic| walk_at "ring") => `(tactic| first | assumption | (apply RingAt.ex (by assumption); (walk_at "nm"); (walk_at "ring")))
local macro_rules | `(tactic| walk_at "st") => `(tactic| first
  | with_reducible refine s_seq ?_
  | with_reducible refine s_asg ?_
  | with_reducible refine s_gName ?_
  | with_reducible refine s_ret ?_
  | with_reducible refine s_ifS ?_
  | with_reducible refine s_next ?_
  | with_reducible refine s_op ?_
  | ((with_reducible apply s_var); exact rfl)
  | ((with_reducible apply s_cS); (walk_at "lit"))
  | with_reducible refine s_c ?_
  | with_reducible refine s_cb ?_
  | with_reducible refine s_cons ?_
  | with_reducible refine s_nil ?_
  | with_reducible refine s_un ?_
  | with_reducible refine s_call ?_
  | with_reducible refine s_test ?_
  | with_reducible refine s_tB ?_
  | with_reducible refine s_blQ ?_
  | with_reducible refine s_not ?_
  | with_reducible refine s_and ?_
  | with_reducible refine s_or ?_
  | with_reducible refine s_andV ?_
  | with_reducible refine s_orV ?_
  | with_reducible refine s_notV ?_
  | with_reducible refine s_ifE ?_
  | with_reducible refine s_chain ?_
  | ((with_reducible refine s_T ?_ ?_); (with_reducible exact rfl))
  | with_reducible refine s_nT ?_
  | with_reducible refine s_nF ?_
  | ((with_reducible refine s_F ?_ ?_); (with_reducible exact rfl))
  | ((with_reducible refine s_T ?_ ?_); assumption)
  | ((with_reducible refine s_F ?_ ?_); assumption)
  | ((with_reducible refine s_nB ?_ ?_); assumption)
  | ((with_reducible refine s_nA ?_ ?_); assumption)
  | ((with_reducible refine s_Td ?_ ?_); omega)
  | ((with_reducible refine s_Fd ?_ ?_); omega)
  | ((with_reducible refine s_nTd ?_ ?_); omega)
  | ((with_reducible refine s_nFd ?_ ?_); omega)
  | with_reducible refine s_sfld ?_
  | with_reducible refine s_addI ?_
  | with_reducible refine s_subI ?_
  | ((with_reducible refine s_mulI ?_ ?_); (walk_at "mul"))
  | ((with_reducible refine s_divI ?_ ?_); exact ⟨by omega, by omega⟩)
  | ((with_reducible refine s_modI ?_ ?_); omega)
  | ((with_reducible refine s_powI ?_ ?_); exact ⟨by decide, by decide, by decide⟩)
  | with_reducible refine s_ltI ?_
  | with_reducible refine s_leI ?_
  | with_reducible refine s_gtI ?_
  | with_reducible refine s_geI ?_
  | with_reducible refine s_negI ?_
  | with_reducible refine s_absI ?_
  | with_reducible refine s_intI ?_
  | with_reducible refine s_min2 ?_
  | with_reducible refine s_max2 ?_
  | with_reducible refine s_eqI ?_
  | with_reducible refine s_neI ?_
  | with_reducible refine s_eqS ?_
  | with_reducible refine s_neS ?_
  | with_reducible refine s_inSg ?_
  | with_reducible refine s_notInSg ?_
  | ((with_reducible refine s_addS ?_ ?_); (walk_at "sz"))
  | ((with_reducible refine s_lenS ?_ ?_); (walk_at "sz"))
  | ((with_reducible apply s_lenL); (walk_at "sq"))
  | ((with_reducible apply s_lenT); (walk_at "sqt"))
  | ((with_reducible apply s_ixL); (walk_at "sq"); exact rfl)
  | ((with_reducible apply s_ixT); (walk_at "sqt"); exact rfl)
  | with_reducible refine s_gSub ?_
  | ((with_reducible apply s_setL); (walk_at "hp"); (exact rfl); (intro _ _ _))
  | ((with_reducible refine s_alloc ?_ ?_); (walk_at "sz"); (intro _ _ _ _ _))
  | ((with_reducible refine s_divmod ?_ ?_); (exact ⟨by omega, PyProof.noPylong_small (by omega)⟩); (intro _ _ _ _ _))
  | ((with_reducible apply s_gTup); (walk_at "sqt"); (exact rfl))
  | ((with_reducible apply s_gLst); (walk_at "sq"); (exact rfl))
  | with_reducible refine s_gCons ?_
  | with_reducible refine s_gNil ?_
  | with_reducible refine s_lc ?_
  | ((with_reducible apply s_cat); (walk_at "hp"); (walk_at "hp"); (walk_at "sz"); (intro _ _ _ _ _))
  | ((with_reducible apply s_slL); (walk_at "sq"); (intro _ _ _ _ _))
  | with_reducible refine s_for ?_
  | with_reducible refine s_rng1 ?_
  | ((with_reducible refine s_rng1i ?_ ?_); (constructor <;> omega))
  | with_reducible refine s_rng2 ?_
  | ((with_reducible refine s_rng2i ?_ ?_); (refine ⟨?_, ?_, ?_, ?_⟩ <;> omega))
  | with_reducible refine s_iStr ?_
  | with_reducible refine s_iStrS ?_
  | with_reducible refine s_iList ?_
  | ((with_reducible apply s_iListA); (walk_at "sq"))
  | with_reducible refine s_iTup ?_
  | ((with_reducible apply s_iTupA); (walk_at "sqt"))
  | with_reducible refine s_sl ?_
  | with_reducible refine s_noPart ?_
  | with_reducible refine s_part ?_
  | with_reducible refine s_int1 ?_
  | ((with_reducible refine s_slS ?_ ?_); (walk_at "sz"))
  | with_reducible refine s_tup ?_
  | with_reducible refine s_lst ?_
  | with_reducible refine s_par ?_
  | with_reducible refine s_pair ?_
  | with_reducible refine s_M1 ?_
  | with_reducible refine s_isStr ?_
  | with_reducible refine s_revS ?_
  | ((with_reducible refine s_revS1 ?_ ?_); (walk_at "sz"))
  | with_reducible refine s_fldE ?_
  | with_reducible refine s_propE ?_
  | ((with_reducible refine u_draw ?_ ?_ ?_ ?_); omega; omega; (walk_at "pool"); (intro _ _ _ _ _ _))
  | ((with_reducible refine u_pool ?_); (intro _ _ _ _ _))
  | with_reducible refine u_is_integer ?_
  | with_reducible refine s_isiII ?_
  | with_reducible refine s_isiIB ?_
  | with_reducible refine s_isiSS ?_
  | ((with_reducible apply u_fldRing); assumption; (walk_at "ring"))
  | ((with_reducible apply u_textP); (walk_at "ring"))
  | ((with_reducible apply u_strRing); (walk_at "ring"))
  | ((with_reducible apply u_eqRing); (walk_at "ring"); (walk_at "ring"))
  | ((with_reducible apply u_isiRing); assumption; (walk_at "ring"))
  | ((with_reducible refine u_is_word ?_ ?_); omega; (intro _ _))
  | ((with_reducible refine u_turnings ?_ ?_); omega; (intro _ _ _ _ _))
  | with_reducible refine s_makeE ?_
  | with_reducible refine s_methE ?_)
local macro_rules | `(tactic| walk_at "go") => `(tactic| repeat (walk_at "st"))
local macro_rules | `(tactic| walk_at "exs") => `(tactic| first | exact Ex.rfl | assumption | (apply Ex.snoc (by assumption); walk_at "exs") | (apply Ex.snocW (by assumption); walk_at "exs"))
local macro_rules | `(tactic| walk_at "kind") => `(tactic| first | assumption | (apply KindAt.ex0 (by assumption); (walk_at "kind")) | (apply KindAt.exP (by assumption) (by assumption); (walk_at "kind")))
local macro_rules | `(tactic| walk_at "st") => `(tactic| first
  | with_reducible refine s_lenSet ?_
  | with_reducible refine s_drop ?_
  | with_reducible refine s_bm ?_
  | with_reducible refine s_notN ?_
  | with_reducible refine s_isN ?_
  | ((with_reducible apply s_tyL); (walk_at "hp"))
  | with_reducible refine s_enumT ?_
  | ((with_reducible apply s_enumTA); (walk_at "sqt"))
  | with_reducible refine s_lc2 ?_)
local macro_rules | `(tactic| walk_at "lit") => `(tactic| exact lit_MRK)
local macro_rules | `(tactic| walk_at "st") => `(tactic| first
  | with_reducible refine s_dcT ?_
  | with_reducible refine s_dc ?_)
def t_Loop_answer (K : PySem.W.Frag) : TS :=
  (tSeq (tAsg (tMeth (He.ga K "Loop") "history" (sp_Loop_history K) [] E0 (tVar 0) (tCons (tVar 1) tNil)) (gTup K 3 (gCons (gName 3) (gCons (gName 4) (gCons (gName 5) gNil)))))
  (tSeq (tIfS (tOr (tNot (tB (tCall (sp_is_integer K) [] E0 (tCons (tVar 2) tNil)))) (tTest (tOp rLtI (tVar 2) (tC (.int 1))))) tNever tNext)
  (tSeq (tAsg (tOp (rIxL K) (tVar 4) (tCall (sp_place_of K) [] E0 (tCons (tOp rSubI (tVar 2) (tC (.int 1))) (tCons (tCB (rLenV K) (tCons (tVar 3) tNil)) (tCons (tVar 5) tNil))))) (gName 6))
  (tRet (tTup (tCons (tVar 6) (tCons (tOp (rIn K false) (tOp (rIxL K) (tVar 3) (tCall (sp_place_of K) [] E0 (tCons (tVar 2) (tCons (tCB (rLenV K) (tCons (tVar 3) tNil)) (tCons (tVar 5) tNil))))) (tFld K (tVar 0) "marked")) tNil)))))))
def t_Loop_rows (K : PySem.W.Frag) : TS :=
  (tRet (tCB (rTupOf K) (tCons (tLc2 (iTup K (tFld K (tVar 0) "order")) (gName 1) tYes (iStr (tFld K (tVar 0) "letters")) (gName 2) tYes (tOp (rCatA K) (tTup (tCons (tVar 1) (tCons (tVar 2) tNil))) (tDGet (tFld K (tVar 0) "table") (tTup (tCons (tVar 1) (tCons (tVar 2) tNil))))) [1, 2] [2]) tNil)))
def t_Loop_turns (K : PySem.W.Frag) : TS :=
  (tRet (tCB (rTupOf K) (tCons (tLc (iTup K (tFld K (tVar 0) "order")) (gName 1) tYes (tOp (rCatA K) (tTup (tCons (tVar 1) tNil)) (tDGet (tFld K (tVar 0) "ending") (tVar 1))) [1]) tNil)))
def t_Loop_row (K : PySem.W.Frag) : TS :=
  (tRet (tTup (tCons (tFld K (tVar 0) "letters") (tCons (tFld K (tVar 0) "order") (tCons (tProp (He.ga K "Loop") (sp_Loop_rows K) [] E0 (tVar 0)) (tCons (tProp (He.ga K "Loop") (sp_Loop_turns K) [] E0 (tVar 0)) (tCons (tFld K (tVar 0) "marked") tNil)))))))
section
variable {K : PySem.W.Frag} {vs : List V} {H H' : Hp} {Q : VK} {E : XK} {x : Addr} {M : LM}
theorem his_orb {w : List Nat} {n b i : Nat} (hb : b < n) (ho : orb M w n = orb M w b) : ((List.range n).map fun i => vS (orb M w i))[plc i n b]? = some (vS (orb M w i)) := by
  rw [List.getElem?_map, List.getElem?_range (plc_lt hb)]
  exact congrArg (fun z => some (vS z)) (orb_plc hb ho i)
theorem his_cnt {w : List Nat} {n b i : Nat} (hb : b < n) (ho : orb M w n = orb M w b) : ((List.range n).map fun i => V.int (cnt M w i))[plc i n b]? = some (.int (cnt M w i)) := by
  rw [List.getElem?_map, List.getElem?_range (plc_lt hb)]
  exact congrArg (fun z => some (V.int z)) (cnt_plc hb ho i)
theorem u_history {w : List Nat} (hx : LoopAt K H x M) (g : GoodM M) (hw : inAb M w) (k : ∀ p q r H' n b, Ex [] H H' → n ≤ 6 → b < n → orb M w n = orb M w b → H' p = some (.tup [.ref q, .ref r, .int (b : Nat)]) → H' q = some (.lst ((List.range n).map fun i => vS (orb M w i))) → H' r = some (.lst ((List.range n).map fun i => .int (cnt M w i))) → Q (.ref p) H') : sp_Loop_history K (.ref x :: ([vS w] ++ [])) H Q E :=
  ⟨x, w, rfl, M, hx, g, hw, fun p H1 n b e hn hb ho ⟨q, r, h1, h2, h3⟩ => k p q r H1 n b e hn hb ho h1 h2 h3⟩
theorem pure_Loop_answer (F : LoopK K) (h : sp_Loop_answer K vs H Q E) : t_Loop_answer K (E1 Q) (start ["self", "text", "lap", "states", "counts", "begin", "count"] vs) H := by
  obtain ⟨x, w, m, rfl, M, hx, g, hw, hm, k⟩ := h
  show t_Loop_answer K (E1 Q) [some (.ref x), some (vS w), some (.int m), none, none, none, none] H
  unfold t_Loop_answer
  walk_at "go"
  refine u_methLoop hx rfl ?_
  walk_at "go"
  refine u_history hx g hw fun p q r H1 n b e1 hn hb ho h1 h2 h3 => ?_
  walk_at "go"
  refine u_place_of (n := n) (by simp) (by omega) hb ?_
  walk_at "go"
  refine s_ixL (SqL.of h3) (atI_of (by omega) (his_cnt hb ho)) ?_
  walk_at "go"
  refine u_place_of (n := n) (by simp) (by omega) hb ?_
  walk_at "go"
  refine s_ixL (SqL.of h2) (atI_of (by omega) (his_orb hb ho)) ?_
  walk_at "go"
  refine u_fMarked F (hx.ex0 e1) fun tm htm => ?_
  walk_at "go"
  refine s_inT htm ?_
  walk_at "go"
  rename_i p2 H2 np2 e2 h4
  rw [show (m - 1).toNat = m.toNat - 1 by omega] at h4
  exact k _ _ (e1.trans e2) h4
theorem cutV_from {xs : List V} {n : Int} (h0 : 0 ≤ n) : cutV xs (some n) none = xs.drop n.toNat := by
  unfold cutV
  have e : HT.sIx xs.length 0 (some n) = min n.toNat xs.length := by
    show (if n < 0 then (n + (xs.length : Int)).toNat else min n.toNat xs.length) = _
    rw [if_neg (by omega)]
  have e2 : HT.sIx xs.length xs.length none = xs.length := rfl
  rw [e, e2]
  rcases Nat.le_total n.toNat xs.length with h | h
  · rw [Nat.min_eq_left h, List.take_of_length_le (by simp)]
  · rw [Nat.min_eq_right h]
    simp [List.drop_eq_nil_of_le h]
theorem pure_Loop_rows (F : LoopK K) (h : sp_Loop_rows K vs H Q E) : t_Loop_rows K (E1 Q) (start ["self", "state", "sign"] vs) H := by
  obtain ⟨x, rfl, M, hx, g, k⟩ := h
  show t_Loop_rows K (E1 Q) [some (.ref x), none, none] H
  unfold t_Loop_rows
  walk_at "go"
  refine u_fOrder F hx fun o ho => ?_
  walk_at "go"
  have hs4 := g.ab.2.1
  have hs6 := g.st.2.1
  refine lc2_tups (m := M.ab) (by decide) ho (by omega) (by omega) (fun a c => rwV ⟨a, c, (M.tb a c).1, (M.tb a c).2⟩) (fun a H1 R e1 hR => ?_) (fun a c H1 C ha hc e1 kc => ?_) fun D H1 xs hD e1 h1 t1 => ?_
  · walk_at "go"
    refine u_fLetters F (hx.ex0 e1) ?_
    walk_at "go"
    exact hR
  · walk_at "go"
    rename_i q H2 nq e2 h2
    refine s_dget ?_
    walk_at "go"
    have hx2 := (hx.ex0 e1).ex0 e2
    refine u_fTable F hx2 fun tt kt h3 h4 => ?_
    walk_at "go"
    rename_i q2 H3 nq2 e3 h5
    refine s_getT (e3.get0 h3) (h4.ex0 e3) ha hc h5 fun p hp => ?_
    refine s_catA (SqT.of (e3.get0 h2)) hp (by simp) (by simp) (by simp) fun z H4 nz e4 h6 => ?_
    exact kc _ _ ((e2.trans e3).trans e4) (SqT.of h6)
  walk_at "go"
  refine s_tupOf (SqL.of h1) fun u H4 hu e4 h6 => ?_
  refine k _ _ (e1.trans e4) (TupsAt.mk (SqT.of h6) ?_)
  have : (rwsOf M).map rwV = M.st.flatMap fun a => M.ab.map fun c => rwV ⟨a, c, (M.tb a c).1, (M.tb a c).2⟩ := by
    unfold rwsOf
    rw [List.map_flatMap]
    congr 1
    funext a
    rw [List.map_map]
    rfl
  rw [this]
  exact t1.ex0 e4
theorem pure_Loop_turns (F : LoopK K) (h : sp_Loop_turns K vs H Q E) : t_Loop_turns K (E1 Q) (start ["self", "state"] vs) H := by
  obtain ⟨x, rfl, M, hx, g, k⟩ := h
  show t_Loop_turns K (E1 Q) [some (.ref x), none] H
  unfold t_Loop_turns
  walk_at "go"
  refine u_fOrder F hx fun o ho => ?_
  walk_at "go"
  have hs6 := g.st.2.1
  refine lc_tupsT ho (by omega) (fun a => tnV ⟨a, (M.en a).1, (M.en a).2⟩) (fun a H1 C ha e1 kc => ?_) fun D H1 xs hD e1 h1 t1 => ?_
  · walk_at "go"
    rename_i q H2 nq e2 h2
    refine s_dget ?_
    walk_at "go"
    refine u_fEnding F ((hx.ex0 e1).ex0 e2) fun te ke h3 h4 => ?_
    walk_at "go"
    refine s_getE h3 h4 ha fun p hp => ?_
    refine s_catA (SqT.of h2) hp (by simp) (by simp) (by simp) fun z H4 nz e4 h6 => ?_
    exact kc _ _ (e2.trans e4) (SqT.of h6)
  walk_at "go"
  refine s_tupOf (SqL.of h1) fun u H4 hu e4 h6 => ?_
  refine k _ _ (e1.trans e4) (TupsAt.mk (SqT.of h6) ?_)
  have : (tnsOf M).map tnV = M.st.map fun a => tnV ⟨a, (M.en a).1, (M.en a).2⟩ := by
    unfold tnsOf
    rw [List.map_map]
    rfl
  rw [this]
  exact t1.ex0 e4
theorem u_propLoop {sp : Sp} {dvs : List V} (h : LoopAt K H x M) (k : sp (.ref x :: dvs) H Q E) : PropG (He.ga K "Loop") sp dvs E (.ref x) H Q := by
  obtain ⟨dx, o, tt, te, tm, kt, ke, h1, _⟩ := h
  exact ⟨x, dx, _, rfl, h1, k⟩
theorem pure_Loop_row (F : LoopK K) (h : sp_Loop_row K vs H Q E) : t_Loop_row K (E1 Q) (start ["self"] vs) H := by
  obtain ⟨x, rfl, M, hx, g, k⟩ := h
  show t_Loop_row K (E1 Q) [some (.ref x)] H
  unfold t_Loop_row
  walk_at "go"
  refine u_fLetters F hx ?_
  walk_at "go"
  refine u_fOrder F hx fun o ho => ?_
  walk_at "go"
  refine u_propLoop hx ?_
  refine ⟨x, rfl, M, hx, g, fun r H1 e1 h1 => ?_⟩
  walk_at "go"
  refine u_propLoop (hx.ex0 e1) ?_
  refine ⟨x, rfl, M, hx.ex0 e1, g, fun t H2 e2 h2 => ?_⟩
  walk_at "go"
  refine u_fMarked F ((hx.ex0 e1).ex0 e2) fun tm htm => ?_
  walk_at "go"
  rename_i z H3 nz e3 h3
  exact k z H3 ((e1.trans e2).trans e3) ⟨o, r, t, tm, SqT.of h3, ((e1.trans e2).trans e3).sqT (by simp) ho, h1.ex0 (e2.trans e3), h2.ex0 e3, e3.sqT (by simp) htm⟩
end
end WB
namespace WB
open PySem PySem.Spec PyProof.Rows L2
theorem lit_z : ("z" : Str) = S [122] := by decide +kernel
theorem Ex.dropN {H H1 H2 : Hp} {p : Addr} {m : List Addr} (hp : H p = none) (a : Ex m H H1) (b : Ex [p] H1 H2) : Ex m H H2 := fun x o hx h => b x o (by simpa using ne_of_none h hp) (a x o hx h)
def MAt (K : PySem.W.Frag) (H : Hp) (q : Addr) (M : LM) : Prop := ∃ po ss es oo kt ke, H q = some (.lst [vS M.ab, .ref po, .ref ss, .ref es, .ref oo]) ∧ H po = some (.lst (M.st.map vS)) ∧ H ss = some (.dT kt) ∧ TabOk K H kt M ∧ H es = some (.dK ke) ∧ EndOk K H ke M ∧ H oo = some (.lst (M.ok.map vS))
section
variable {K : PySem.W.Frag} {H H' : Hp} {Q : VK} {E : XK} {a q x : Addr} {M : LM}
theorem MAt.ex0 (e : Ex [] H H') (h : MAt K H q M) : MAt K H' q M := by
  obtain ⟨po, ss, es, oo, kt, ke, h1, h2, h3, h4, h5, h6, h7⟩ := h
  exact ⟨po, ss, es, oo, kt, ke, e.get0 h1, e.get0 h2, e.get0 h3, h4.ex0 e, e.get0 h5, h6.ex0 e, e.get0 h7⟩
theorem strs_ne {ls : List (List Nat)} {x y z : Int} (h : ls.map vS = [.int x, .int y, .int z]) : False := by
  match ls, h with
  | a :: l, h => cases (List.cons.inj h).1
theorem MAt.exP (hp : PoolAt H a) (e : Ex [a] H H') (h : MAt K H q M) : MAt K H' q M := by
  obtain ⟨po, ss, es, oo, kt, ke, h1, h2, h3, h4, h5, h6, h7⟩ := h
  have hq := hp
  obtain ⟨y1, y2, y3, hq⟩ := hq
  refine ⟨po, ss, es, oo, kt, ke, e.get ?_ h1, e.get ?_ h2, e.get ?_ h3, h4.exP hp e, e.get ?_ h5, h6.exP hp e, e.get ?_ h7⟩
  · simp only [List.mem_singleton]; intro w; rw [w, hq] at h1; cases h1
  · simp only [List.mem_singleton]; intro w; rw [w, hq] at h2; exact strs_ne (HO.lst.inj (Option.some.inj h2)).symm
  · simp only [List.mem_singleton]; intro w; rw [w, hq] at h3; cases h3
  · simp only [List.mem_singleton]; intro w; rw [w, hq] at h5; cases h5
  · simp only [List.mem_singleton]; intro w; rw [w, hq] at h7; exact strs_ne (HO.lst.inj (Option.some.inj h7)).symm
theorem goodS_sgn {s : List Nat} (h : goodS s) : goodS (sgn s) := goodS_perm h (sgn_perm s)
theorem LoopAt.same {M' : LM} (h1 : M'.ab = M.ab) (h2 : M'.st = M.st) (h3 : ∀ a ∈ M.st, ∀ c ∈ M.ab, M'.tb a c = M.tb a c) (h4 : ∀ a ∈ M.st, M'.en a = M.en a) (h5 : M'.ok = M.ok) (h : LoopAt K H x M) : LoopAt K H x M' := by
  obtain ⟨dx, o, tt, te, tm, kt, ke, z1, z2, z3, z4, z5, z6, z7⟩ := h
  refine ⟨dx, o, tt, te, tm, kt, ke, by rw [h1]; exact z1, by rw [h2]; exact z2, z3, fun a ha c hc => ?_, z5, fun a ha => ?_, by rw [h5]; exact z7⟩
  · rw [h2] at ha
    rw [h1] at hc
    rw [h3 a ha c hc]
    exact z4 a ha c hc
  · rw [h2] at ha
    rw [h4 a ha]
    exact z6 a ha
theorem pairs_nodup {ab : List Nat} (ha : ab.Nodup) : ∀ {st : List (List Nat)}, st.Nodup → (st.flatMap fun a => ab.map fun c => (a, c)).Nodup
  | [], _ => by simp
  | a :: st, h => by
    obtain ⟨h1, h2⟩ := List.nodup_cons.mp h
    rw [List.flatMap_cons]
    refine List.nodup_append.mpr ⟨?_, pairs_nodup ha h2, ?_⟩
    · exact List.pairwise_map.mpr (ha.imp fun z w => z (Prod.mk.inj w).2)
    · intro p hp q hq e
      obtain ⟨c, _, rfl⟩ := List.mem_map.mp hp
      obtain ⟨b, hb, hq⟩ := List.mem_flatMap.mp hq
      obtain ⟨d, _, rfl⟩ := List.mem_map.mp hq
      cases e
      exact h1 hb
theorem rws_len (M : LM) : ∀ st : List (List Nat), (st.flatMap fun a => M.ab.map fun c => (⟨a, c, (M.tb a c).1, (M.tb a c).2⟩ : Rw)).length = M.ab.length * st.length
  | [] => by simp
  | a :: st => by rw [List.flatMap_cons, List.length_append, rws_len M st, List.length_map, List.length_cons, Nat.mul_succ, Nat.add_comm]
theorem mem_rws {r : Rw} (h : r ∈ rwsOf M) : r.a ∈ M.st ∧ r.c ∈ M.ab ∧ M.tb r.a r.c = (r.b, r.n) := by
  obtain ⟨a, ha, h⟩ := List.mem_flatMap.mp h
  obtain ⟨c, hc, rfl⟩ := List.mem_map.mp h
  exact ⟨ha, hc, rfl⟩
theorem rws_mem {b : List Nat} {c : Nat} (hb : b ∈ M.st) (hc : c ∈ M.ab) : (⟨b, c, (M.tb b c).1, (M.tb b c).2⟩ : Rw) ∈ rwsOf M := List.mem_flatMap.mpr ⟨b, hb, List.mem_map.mpr ⟨c, hc, rfl⟩⟩
theorem good_rws (g : GoodM M) : goodRws M.ab M.st (rwsOf M) := by
  refine ⟨fun r hr => ?_, ?_, rws_len M M.st⟩
  · obtain ⟨h1, h2, h3⟩ := mem_rws hr
    have := g.tb _ h1 _ h2
    rw [h3] at this
    exact ⟨h1, h2, this⟩
  · have := pairs_nodup g.ab.2.2 g.st.2.2.1
    have e : (rwsOf M).map (fun r => (r.a, r.c)) = M.st.flatMap fun a => M.ab.map fun c => (a, c) := by
      unfold rwsOf
      rw [List.map_flatMap]
      congr 1
      funext a
      rw [List.map_map]
      rfl
    rw [e]
    exact this
theorem good_tns (g : GoodM M) : goodTns M.st (tnsOf M) := by
  refine ⟨fun t ht => ?_, ?_⟩
  · obtain ⟨a, ha, rfl⟩ := List.mem_map.mp ht
    exact ⟨ha, g.en a ha⟩
  · unfold tnsOf
    rw [List.map_map]
    have : ((fun t : Tn => t.a) ∘ fun a => (⟨a, (M.en a).1, (M.en a).2⟩ : Tn)) = id := rfl
    rw [this, List.map_id]
    exact g.st.2.2.1
theorem tb_rws (b : List Nat) (hb : b ∈ M.st) (c : Nat) (hc : c ∈ M.ab) : tbOf (rwsOf M) b c = M.tb b c := by
  unfold tbOf
  cases h : (rwsOf M).find? fun r => decide (r.a = b ∧ r.c = c) with
  | none =>
    have := List.find?_eq_none.mp h _ (rws_mem hb hc)
    exact absurd (decide_eq_true ⟨rfl, rfl⟩) this
  | some r =>
    have h0 := List.find?_some h
    have h1 : r.a = b ∧ r.c = c := of_decide_eq_true h0
    have h2 := mem_rws (List.mem_of_find?_eq_some h)
    rw [h1.1, h1.2] at h2
    show (r.b, r.n) = _
    exact h2.2.2.symm
theorem en_tns (b : List Nat) (hb : b ∈ M.st) : enOf (tnsOf M) b = M.en b := by
  unfold enOf
  cases h : (tnsOf M).find? fun t => decide (t.a = b) with
  | none =>
    have := List.find?_eq_none.mp h ⟨b, (M.en b).1, (M.en b).2⟩ (List.mem_map.mpr ⟨b, hb, rfl⟩)
    exact absurd (decide_eq_true rfl) this
  | some t =>
    have h0 := List.find?_some h
    have h1 : t.a = b := of_decide_eq_true h0
    obtain ⟨a, ha, rfl⟩ := List.mem_map.mp (List.mem_of_find?_eq_some h)
    have h1 : a = b := h1
    subst h1
    rfl
theorem sqT_non {p : Addr} {o : HO} {xs : List V} {t : Addr} (hp : H p = some o) (h1 : ∀ ys, o ≠ .tup ys) (h2 : ∀ b ys, o ≠ .frz b (.tup ys)) (e : Ex [p] H H') (h : SqT K H t xs) : SqT K H' t xs := by
  rcases h with (h | ⟨b, h⟩) | h
  · exact e.sqT (by simp only [List.mem_singleton]; intro w; rw [w, hp] at h; exact h1 _ (Option.some.inj h)) (.inl (.inl h))
  · exact e.sqT (by simp only [List.mem_singleton]; intro w; rw [w, hp] at h; exact h2 _ _ (Option.some.inj h)) (.inl (.inr ⟨b, h⟩))
  · exact .inr h
end
end WB
namespace WB
open PySem PySem.Spec PyProof.Rows L2
theorem lit_122 : ("z" : Str) = S [122] := by decide +kernel
end WB
namespace WB
open PySem PySem.Spec PyProof.Rows L2
section
variable {K : PySem.W.Frag} {vs : List V} {H H' : Hp} {Q : VK} {E : XK} {x q : Addr} {M : LM}
theorem s_dnewT {σ : St} (k : ∀ p H2, H p = none → Ex [] H H2 → H2 p = some (.dT []) → Q (.ref p) H2) : tDNewT σ H Q := fun p hp => k p _ hp (Ex.new hp) upd_same
theorem s_dput {td ty tv : TE} {n b c : St → Hp → Prop} {rt : VK} {σ : St} (k : tv σ H fun v H1 => td σ H1 fun x H2 => ty σ H2 fun y H3 => ∃ a H4, x = .ref a ∧ DPut H3 a y v H4 ∧ n σ H4) : sDPut td ty tv ⟨n, rt, b, c⟩ σ H := k
def TE1 (K : PySem.W.Frag) (H : Hp) (st : List (List Nat)) (kt : List (List Key × V)) (b : List Nat) (c : Nat) : Prop := ∃ (z : List Nat × Int) (p : Addr), valV kt [kS b, kS [c]] = some (.ref p) ∧ SqT K H p [vS z.1, .int z.2] ∧ z.1 ∈ st ∧ z.2.natAbs ≤ 2 ^ 200
def EE1 (K : PySem.W.Frag) (H : Hp) (st : List (List Nat)) (ke : List (Key × V)) (b : List Nat) : Prop := ∃ (z : List Nat × Int) (p : Addr), valV ke (kS b) = some (.ref p) ∧ SqT K H p [vS z.1, .int z.2] ∧ z.1 ∈ st ∧ z.2.natAbs ≤ 2 ^ 200
structure MSt (K : PySem.W.Frag) (H0 : Hp) (a po ss es : Addr) (st : List (List Nat)) (D : List Nat → Nat → Prop) (D2 : List Nat → Prop) (n : Nat) (H : Hp) : Prop where
  ex : Ex [a] H0 H
  pool : PoolAt H a
  po : H po = some (.lst (st.map vS))
  tb : ∃ kt, H ss = some (.dT kt) ∧ kt.length ≤ n ∧ ∀ b c, D b c → TE1 K H st kt b c
  en : ∃ ke, H es = some (.dK ke) ∧ ke.length ≤ n ∧ ∀ b, D2 b → EE1 K H st ke b
section
variable {H0 : Hp} {a po ss es : Addr} {st : List (List Nat)} {D : List Nat → Nat → Prop} {D2 : List Nat → Prop} {n : Nat}
theorem MSt.ex0 (e : Ex [] H H') (m : MSt K H0 a po ss es st D D2 n H) : MSt K H0 a po ss es st D D2 n H' := by
  obtain ⟨h1, h2, h3, ⟨kt, h4, h5, h6⟩, ⟨ke, h7, h8, h9⟩⟩ := m
  refine ⟨h1.trans e.wide, h2.ex e (by simp), e.get0 h3, ⟨kt, e.get0 h4, h5, fun b c d => ?_⟩, ⟨ke, e.get0 h7, h8, fun b d => ?_⟩⟩
  · obtain ⟨z, p, z1, z2, z3⟩ := h6 b c d
    exact ⟨z, p, z1, e.sqT (by simp) z2, z3⟩
  · obtain ⟨z, p, z1, z2, z3⟩ := h9 b d
    exact ⟨z, p, z1, e.sqT (by simp) z2, z3⟩
theorem MSt.draw (e : Ex [a] H H') (hp : PoolAt H' a) (m : MSt K H0 a po ss es st D D2 n H) : MSt K H0 a po ss es st D D2 n H' := by
  obtain ⟨h1, h2, h3, ⟨kt, h4, h5, h6⟩, ⟨ke, h7, h8, h9⟩⟩ := m
  have h2' := h2
  obtain ⟨y1, y2, y3, hq⟩ := h2'
  refine ⟨h1.trans e, hp, e.get ?_ h3, ⟨kt, e.get ?_ h4, h5, fun b c d => ?_⟩, ⟨ke, e.get ?_ h7, h8, fun b d => ?_⟩⟩
  · simp only [List.mem_singleton]; intro w; rw [w, hq] at h3; exact strs_ne (HO.lst.inj (Option.some.inj h3)).symm
  · simp only [List.mem_singleton]; intro w; rw [w, hq] at h4; cases h4
  · obtain ⟨z, p, z1, z2, z3⟩ := h6 b c d
    exact ⟨z, p, z1, sqT_pool h2 e z2, z3⟩
  · simp only [List.mem_singleton]; intro w; rw [w, hq] at h7; cases h7
  · obtain ⟨z, p, z1, z2, z3⟩ := h9 b d
    exact ⟨z, p, z1, sqT_pool h2 e z2, z3⟩
theorem MSt.weak {D' : List Nat → Nat → Prop} {D2' : List Nat → Prop} {n' : Nat} (m : MSt K H0 a po ss es st D D2 n H) (h1 : ∀ b c, D' b c → D b c) (h2 : ∀ b, D2' b → D2 b) (h3 : n ≤ n') : MSt K H0 a po ss es st D' D2' n' H := by
  obtain ⟨z1, z2, z3, ⟨kt, h4, h5, h6⟩, ⟨ke, h7, h8, h9⟩⟩ := m
  exact ⟨z1, z2, z3, ⟨kt, h4, by omega, fun b c d => h6 b c (h1 b c d)⟩, ⟨ke, h7, by omega, fun b d => h9 b (h2 b d)⟩⟩
end
theorem Ex.freeP {a b : Addr} (hp : PoolAt H' a) (e : Ex [a] H H') (h : H' b = none) : H b = none := by
  cases hh : H b with
  | none => rfl
  | some o =>
    rw [e b o (by simp only [List.mem_singleton]; intro w; exact hp.there (w ▸ h)) hh] at h
    cases h
end
end WB
namespace WB
open PySem PySem.Spec PyProof.Rows L2
end WB
namespace WB
open PySem PySem.Spec PyProof.Rows L2
section
variable {K : PySem.W.Frag} {H H' : Hp} {Q : VK} {E : XK} {a p q x : Addr} {M : LM} {σ : St}
theorem Dd.dp : ∀ (n : Nat) (v : V) (d : PyData), Dd K H n v d → Dp K H v d
  | 0, _, _, h => Scal.dp h
  | n + 1, v, d, h => by
    rcases h with h | ⟨a, xs, ds, rfl, rfl, h1, hn, hl, h2⟩ | ⟨a, xs, ds, rfl, rfl, h1, hn, hl, h2⟩
    · exact Scal.dp h
    · exact .tup h1 (dpAll_of xs ds hl fun i x e hx he => Dd.dp n x e (h2 i x e hx he))
    · exact .lst (SqL.of h1) (dpAll_of xs ds hl fun i x e hx he => Dd.dp n x e (h2 i x e hx he))
theorem Dd.shape : ∀ (n : Nat) (v : V) (d : PyData), Dd K H n v d → PyData.canLay0 d = true ∧ PyData.depth d ≤ n
  | 0, v, d, h => by
    obtain ⟨h1, h2⟩ := scal_shape h
    exact ⟨h1, by omega⟩
  | n + 1, v, d, h => by
    have parts : ∀ (xs : List V) (ds : List PyData), ds.length = xs.length → (∀ (i : Nat) x e, xs[i]? = some x → ds[i]? = some e → Dd K H n x e) → ∀ e ∈ ds, PyData.canLay0 e = true ∧ PyData.depth e ≤ n := fun xs ds hl h e he => by
      obtain ⟨i, hi⟩ := mem_get he
      have hlt : i < xs.length := by
        have := (List.getElem?_eq_some_iff.mp hi).1
        omega
      exact Dd.shape n xs[i] e (h i xs[i] e (List.getElem?_eq_getElem hlt) hi)
    rcases h with h | ⟨a, xs, ds, rfl, rfl, h1, hn, hl, h2⟩ | ⟨a, xs, ds, rfl, rfl, h1, hn, hl, h2⟩
    · obtain ⟨h1, h2⟩ := scal_shape h
      exact ⟨h1, by omega⟩
    · have pp := parts xs ds hl h2
      refine ⟨by rw [PyData.canLay0]; exact lay_all fun e he => (pp e he).1, ?_⟩
      rw [PyData.depth]
      have := dep_all (m := n) fun e he => (pp e he).2
      omega
    · have pp := parts xs ds hl h2
      refine ⟨by rw [PyData.canLay0]; exact lay_all fun e he => (pp e he).1, ?_⟩
      rw [PyData.depth]
      have := dep_all (m := n) fun e he => (pp e he).2
      omega
theorem Dd.shaped {n : Nat} {v : V} {d : PyData} (hn : n ≤ 20) (h : Dd K H n v d) : SeqAt.shaped d = true := by
  obtain ⟨h1, h2⟩ := Dd.shape n v d h
  unfold SeqAt.shaped
  exact Bool.and_eq_true_iff.mpr ⟨h1, decide_eq_true (by omega)⟩
theorem s_neDd {n m : Nat} {u v : V} {d : PyData} (hn : n ≤ 20) (h1 : Dd K H n u d) (h2 : Dd K H m v d) (k : Q (.bl false) H) : rNeD K u v H Q := by
  have hs := Dd.shaped hn h1
  refine ⟨_, _, Dd.dp n u _ h1, Dd.dp m v _ h2, hs, hs, ?_⟩
  rw [SeqAt.eqv_refl _ (Bool.and_eq_true_iff.mp hs).1]
  exact k
theorem Fr.ex0 {F : Addr → Prop} {n : Nat} {v : V} {d : PyData} (e : Ex [] H H') (h : Fr F H n v d) : Fr F H' n v d := Fr.mono (fun _ h => h) (fun _ _ _ h => e.get0 h) _ _ _ h
def scD : V → PyData
  | .bl b => .bool b
  | .int i => .int i
  | .str s => .str s
  | _ => .none
theorem sc_int (i : Int) : Scal (.int i) (scD (.int i)) := .inr (.inr (.inl ⟨i, rfl, rfl⟩))
theorem sc_S {l : List Nat} (h : plain l) : Scal (vS l) (scD (vS l)) := .inr (.inr (.inr ⟨l, h, rfl, rfl⟩))
theorem dd_scal {n : Nat} {v : V} {d : PyData} (h : Scal v d) : Dd K H n v d := by
  cases n with
  | zero => exact h
  | succ n => exact .inl h
theorem dd_tup1 {n : Nat} {l : List V} (h : SqT K H p l) (hl : l.length ≤ 1000) (hs : ∀ v ∈ l, Scal v (scD v)) : Dd K H (n + 1) (.ref p) (.tuple (l.map scD)) := by
  refine .inr (.inl ⟨p, l, _, rfl, rfl, h, hl, by simp, fun i y e h1 h2 => ?_⟩)
  rw [List.getElem?_map, h1] at h2
  cases h2
  exact dd_scal (hs y (List.mem_of_getElem? h1))
theorem dd_tups {n : Nat} {ls : List (List V)} (h : TupsAt K H p ls) (hl : ls.length ≤ 1000) (hs : ∀ l ∈ ls, l.length ≤ 1000 ∧ ∀ v ∈ l, Scal v (scD v)) : Dd K H (n + 2) (.ref p) (.tuple (ls.map fun l => .tuple (l.map scD))) := by
  obtain ⟨xs, h1, h2, h3⟩ := h
  refine .inr (.inl ⟨p, xs, _, rfl, rfl, h1, by omega, by simp [h2], fun i y e z1 z2 => ?_⟩)
  rw [List.getElem?_map] at z2
  obtain ⟨l, z3, rfl⟩ := Option.map_eq_some_iff.mp z2
  obtain ⟨r, rfl, z4⟩ := h3 i y l z1 z3
  have := hs l (List.mem_of_getElem? z3)
  exact dd_tup1 z4 this.1 this.2
theorem dd_strs {n : Nat} {ls : List (List Nat)} (h : SqT K H p (ls.map vS)) (hl : ls.length ≤ 1000) (hs : ∀ l ∈ ls, plain l) : Dd K H (n + 1) (.ref p) (.tuple ((ls.map vS).map scD)) :=
  dd_tup1 h (by simpa using hl) fun v hv => by
    obtain ⟨l, hl, rfl⟩ := List.mem_map.mp hv
    exact sc_S (hs l hl)
theorem plain_ab {s : List Nat} (h : goodS s) : plain s := fun c hc => let_plain (isWord_in h.1 c hc)
theorem plain_in {s : List Nat} {c : Nat} (h : goodS s) (hc : c ∈ s) : plain [c] := fun d hd => by rw [List.mem_singleton.mp hd]; exact plain_ab h c hc
theorem plain_st (g : GoodM M) {b : List Nat} (h : b ∈ M.st) : plain b := name_plain (g.st.2.2.2 b h)
def lrowD (M : LM) : PyData := .tuple [scD (vS M.ab), .tuple ((M.st.map vS).map scD), .tuple (((rwsOf M).map rwV).map fun l => .tuple (l.map scD)), .tuple (((tnsOf M).map tnV).map fun l => .tuple (l.map scD)), .tuple ((M.ok.map vS).map scD)]
theorem dd_row {n : Nat} (g : GoodM M) (hok : M.ok.length ≤ 1000) (h : LRowAt K H p M) : Dd K H (n + 3) (.ref p) (lrowD M) := by
  obtain ⟨o, r, t, y, h1, h2, h3, h4, h5⟩ := h
  have l6 := g.st.2.1
  have l4 := g.ab.2.1
  have d1 : Dd K H (n + 2) (vS M.ab) (scD (vS M.ab)) := dd_scal (sc_S (plain_ab g.ab))
  have d2 : Dd K H (n + 2) (.ref o) (.tuple ((M.st.map vS).map scD)) := dd_strs h2 (by omega) fun l hl => plain_st g hl
  have d3 : Dd K H (n + 2) (.ref r) (.tuple (((rwsOf M).map rwV).map fun l => .tuple (l.map scD))) := dd_tups h3 (by
      rw [List.length_map, rwsOf, rws_len]
      exact Nat.le_trans (Nat.mul_le_mul l4 l6) (by decide)) fun l hl => by
    obtain ⟨rw, hr, rfl⟩ := List.mem_map.mp hl
    obtain ⟨m1, m2, m3⟩ := mem_rws hr
    have m4 := g.tb _ m1 _ m2
    rw [m3] at m4
    refine ⟨by simp [rwV], fun v hv => ?_⟩
    simp only [rwV, List.mem_cons, List.not_mem_nil, or_false] at hv
    rcases hv with rfl | rfl | rfl | rfl
    · exact sc_S (plain_st g m1)
    · exact sc_S (plain_in g.ab m2)
    · exact sc_S (plain_st g m4)
    · exact sc_int _
  have d4 : Dd K H (n + 2) (.ref t) (.tuple (((tnsOf M).map tnV).map fun l => .tuple (l.map scD))) := dd_tups h4 (by
      rw [List.length_map, tnsOf, List.length_map]
      omega) fun l hl => by
    obtain ⟨tn, hr, rfl⟩ := List.mem_map.mp hl
    obtain ⟨b, hb, rfl⟩ := List.mem_map.mp hr
    refine ⟨by simp [tnV], fun v hv => ?_⟩
    simp only [tnV, List.mem_cons, List.not_mem_nil, or_false] at hv
    rcases hv with rfl | rfl | rfl
    · exact sc_S (plain_st g hb)
    · exact sc_S (plain_st g (g.en b hb))
    · exact sc_int _
  have d5 : Dd K H (n + 2) (.ref y) (.tuple ((M.ok.map vS).map scD)) := dd_strs h5 hok fun l hl => plain_st g (g.ok l hl)
  refine .inr (.inl ⟨p, _, _, rfl, rfl, h1, by simp, by simp, fun i y e z1 z2 => ?_⟩)
  match i, z1, z2 with
  | 0, z1, z2 => cases z1; cases z2; exact d1
  | 1, z1, z2 => cases z1; cases z2; exact d2
  | 2, z1, z2 => cases z1; cases z2; exact d3
  | 3, z1, z2 => cases z1; cases z2; exact d4
  | 4, z1, z2 => cases z1; cases z2; exact d5
  | i + 5, z1, z2 => cases z1
theorem TupsAt.take {ls : List (List V)} {i : Nat} {xs : List V} (h2 : Tups K H xs ls) (h : SqT K H q (xs.take i)) : TupsAt K H q (ls.take i) := by
  refine ⟨_, h, by simp [h2.1], fun j y l h3 h4 => ?_⟩
  by_cases hj : j < i
  · rw [List.getElem?_take_of_lt hj] at h3 h4
    exact h2.2 j y l h3 h4
  · rw [List.getElem?_take_eq_none (by omega)] at h3
    cases h3
theorem u_lrow (hx : LoopAt K H x M) (g : GoodM M) (k : ∀ p H', Ex [] H H' → LRowAt K H' p M → Q (.ref p) H') : PropG (He.ga K "Loop") (sp_Loop_row K) [] E (.ref x) H Q := u_propLoop hx ⟨x, rfl, M, hx, g, k⟩
end
end WB
namespace WB
open PySem PySem.Spec PyProof.Rows L2
section
variable {M : LM} {w : List Nat}
theorem orb_againS (g : GoodM M) (hw : ∀ c ∈ w, c ∈ M.ab) : ∃ b n, b < n ∧ n ≤ M.st.length ∧ orb M w n = orb M w b := by
  refine Classical.byContradiction fun hno => ?_
  have hnd : ((List.range (M.st.length + 1)).map (orb M w)).Nodup := by
    refine List.pairwise_map.mpr ?_
    refine List.Pairwise.imp_of_mem (R := fun a b => a < b) (fun {a b} ha hb hab e => ?_) List.pairwise_lt_range
    have := List.mem_range.mp hb
    exact hno ⟨a, b, hab, by omega, e.symm⟩
  have := nodup_le _ M.st hnd fun a ha => by obtain ⟨i, _, rfl⟩ := List.mem_map.mp ha; exact orb_in g hw i
  rw [List.length_map, List.length_range] at this
  omega
end
end WB
namespace WB
open PySem PySem.Spec PyProof.Rows L2
end WB
namespace WB
open PySem PySem.Spec PyProof.Rows L2
theorem s_par3 {n b c : St → Hp → Prop} {rt : VK} {σ : St} {H : Hp} {i j l : Nat} {ta : TA} (k : ta σ H fun vs H1 => ∃ u v w, vs = [u, v, w] ∧ n (((σ.set i (some u)).set j (some v)).set l (some w)) H1) : tPar3 i j l ta ⟨n, rt, b, c⟩ σ H := k
inductive Chg where
  | row (a : List Nat) (c : Nat) (b : List Nat) (n : Int)
  | turn (a b : List Nat) (n : Int)
  | beg (a : List Nat)
structure GL (M : LM) : Prop where
  g : GoodM M
  f : M.st.filter (fun a => decide (a ∈ M.ok)) = M.ok
  s : sgn M.ab = M.ab
section
variable {K : PySem.W.Frag} {H H' : Hp} {Q : VK} {E : XK} {x y c : Addr} {M M' : LM} {ch : Chg}
theorem s_catB {a b : Addr} {xs ys : List V} (h1 : SqT K H a xs) (h2 : SqT K H b ys) (hl : xs.length + ys.length ≤ 1000) (k : ∀ p H2, Ex [] H H2 → SqT K H2 p (xs ++ ys) → Q (.ref p) H2) : rCatA K (.ref a) (.ref b) H Q :=
  ⟨a, b, xs, ys, rfl, rfl, h1, h2, Nat.le_trans hl (by decide), fun e => k b H Ex.rfl (by rw [e]; exact h2), fun _ e => k a H Ex.rfl (by rw [e, List.append_nil]; exact h1), fun _ _ p hp => k p _ (Ex.new hp) (SqT.of upd_same)⟩
def sp_Loop_signs (K : PySem.W.Frag) : Sp := fun vs H Q _ => ∃ x : Addr, vs = [.ref x] ∧ ∃ M : LM, LoopAt K H x M ∧ Q (vS M.ab) H
theorem u_lsigns (hx : LoopAt K H x M) (k : Q (vS M.ab) H) : PropG (He.ga K "Loop") (sp_Loop_signs K) [] E (.ref x) H Q := u_propLoop hx ⟨x, rfl, M, hx, k⟩
theorem ok_len {M : LM} (g : GL M) : M.ok.length ≤ 1000 := by
  rw [← g.f]
  have h6 := g.g.st.2.1
  exact Nat.le_trans (List.length_filter_le _ _) (by omega)
end
end WB
namespace WB
open PySem PySem.Spec PyProof.Rows L2
theorem lit_114_111_119 : ("row" : Str) = S [114, 111, 119] := by decide +kernel
theorem lit_116_117_114_110 : ("turn" : Str) = S [116, 117, 114, 110] := by decide +kernel
theorem lit_98_101_103_105_110 : ("begin" : Str) = S [98, 101, 103, 105, 110] := by decide +kernel
local macro_rules | `(tactic| walk_at "lit") => `(tactic| first | exact lit_114_111_119 | exact lit_116_117_114_110 | exact lit_98_101_103_105_110)
local macro_rules | `(tactic| walk_at "lit") => `(tactic| first | exact lit_abc | exact lit_empty)
local macro_rules | `(tactic| walk_at "nm") => `(tactic| focus first | exact List.not_mem_nil | (simp only [List.mem_singleton]; first | assumption | (exact Ne.symm (by assumption)) | (intro hz; subst hz; simp_all; done)))
local macro_rules | `(tactic| walk_at "hp") => `(tactic| first | assumption | (apply Ex.get0 (by assumption); walk_at "hp") | (apply Ex.get (by assumption); (walk_at "nm"); (walk_at "hp")))
local macro_rules | `(tactic| walk_at "sq") => `(tactic| first | assumption | (apply SqL.of; walk_at "hp") | (apply Ex.sqL (by assumption); (walk_at "nm"); (walk_at "sq")))
local macro_rules | `(tactic| walk_at "sqt") => `(tactic| first | assumption | (apply SqT.of; walk_at "hp") | (apply Ex.sqT (by assumption); (walk_at "nm"); (walk_at "sqt")))
local macro_rules | `(tactic| walk_at "sz") => `(tactic| focus ((with_reducible refine Nat.le_trans (m := 100000) ?_ (by decide)); first | omega | (simp; done) | (simp; omega)))
local macro_rules | `(tactic| walk_at "mul") => `(tactic| first | exact Or.inr ⟨by omega, by omega⟩ | exact Or.inl ⟨by omega, by omega⟩)
local macro_rules | `(tactic| walk_at "pool") => `(tactic| first | assumption | (apply PoolAt.ex (by assumption); (walk_at "nm"); (walk_at "pool")))
local macro_rules | `(tactic| walk_at "ring") => `(tactic| first | assumption | (apply RingAt.ex (by assumption); (walk_at "nm"); (walk_at "ring")))
local macro_rules | `(tactic| walk_at "st") => `(tactic| first
  | with_reducible refine s_seq ?_
  | with_reducible refine s_asg ?_
  | with_reducible refine s_gName ?_
  | with_reducible refine s_ret ?_
  | with_reducible refine s_ifS ?_
  | with_reducible refine s_next ?_
  | with_reducible refine s_op ?_
  | ((with_reducible apply s_var); exact rfl)
  | ((with_reducible apply s_cS); (walk_at "lit"))
  | with_reducible refine s_c ?_
  | with_reducible refine s_cb ?_
  | with_reducible refine s_cons ?_
  | with_reducible refine s_nil ?_
  | with_reducible refine s_un ?_
  | with_reducible refine s_call ?_
  | with_reducible refine s_test ?_
  | with_reducible refine s_tB ?_
  | with_reducible refine s_blQ ?_
  | with_reducible refine s_not ?_
  | with_reducible refine s_and ?_
  | with_reducible refine s_or ?_
  | with_reducible refine s_andV ?_
  | with_reducible refine s_orV ?_
  | with_reducible refine s_notV ?_
  | with_reducible refine s_ifE ?_
  | with_reducible refine s_chain ?_
  | ((with_reducible refine s_T ?_ ?_); (with_reducible exact rfl))
  | with_reducible refine s_nT ?_
  | with_reducible refine s_nF ?_
  | ((with_reducible refine s_F ?_ ?_); (with_reducible exact rfl))
  | ((with_reducible refine s_T ?_ ?_); assumption)
  | ((with_reducible refine s_F ?_ ?_); assumption)
  | ((with_reducible refine s_nB ?_ ?_); assumption)
  | ((with_reducible refine s_nA ?_ ?_); assumption)
  | ((with_reducible refine s_Td ?_ ?_); omega)
  | ((with_reducible refine s_Fd ?_ ?_); omega)
  | ((with_reducible refine s_nTd ?_ ?_); omega)
  | ((with_reducible refine s_nFd ?_ ?_); omega)
  | with_reducible refine s_sfld ?_
  | with_reducible refine s_addI ?_
  | with_reducible refine s_subI ?_
  | ((with_reducible refine s_mulI ?_ ?_); (walk_at "mul"))
  | ((with_reducible refine s_divI ?_ ?_); exact ⟨by omega, by omega⟩)
  | ((with_reducible refine s_modI ?_ ?_); omega)
  | ((with_reducible refine s_powI ?_ ?_); exact ⟨by decide, by decide, by decide⟩)
  | with_reducible refine s_ltI ?_
  | with_reducible refine s_leI ?_
  | with_reducible refine s_gtI ?_
  | with_reducible refine s_geI ?_
  | with_reducible refine s_negI ?_
  | with_reducible refine s_absI ?_
  | with_reducible refine s_intI ?_
  | with_reducible refine s_min2 ?_
  | with_reducible refine s_max2 ?_
  | with_reducible refine s_eqI ?_
  | with_reducible refine s_neI ?_
  | with_reducible refine s_eqS ?_
  | with_reducible refine s_neS ?_
  | with_reducible refine s_inSg ?_
  | with_reducible refine s_notInSg ?_
  | ((with_reducible refine s_addS ?_ ?_); (walk_at "sz"))
  | ((with_reducible refine s_lenS ?_ ?_); (walk_at "sz"))
  | ((with_reducible apply s_lenL); (walk_at "sq"))
  | ((with_reducible apply s_lenT); (walk_at "sqt"))
  | ((with_reducible apply s_ixL); (walk_at "sq"); exact rfl)
  | ((with_reducible apply s_ixT); (walk_at "sqt"); exact rfl)
  | with_reducible refine s_gSub ?_
  | ((with_reducible apply s_setL); (walk_at "hp"); (exact rfl); (intro _ _ _))
  | ((with_reducible refine s_alloc ?_ ?_); (walk_at "sz"); (intro _ _ _ _ _))
  | ((with_reducible refine s_divmod ?_ ?_); (exact ⟨by omega, PyProof.noPylong_small (by omega)⟩); (intro _ _ _ _ _))
  | ((with_reducible apply s_gTup); (walk_at "sqt"); (exact rfl))
  | ((with_reducible apply s_gLst); (walk_at "sq"); (exact rfl))
  | with_reducible refine s_gCons ?_
  | with_reducible refine s_gNil ?_
  | with_reducible refine s_lc ?_
  | ((with_reducible apply s_cat); (walk_at "hp"); (walk_at "hp"); (walk_at "sz"); (intro _ _ _ _ _))
  | ((with_reducible apply s_slL); (walk_at "sq"); (intro _ _ _ _ _))
  | with_reducible refine s_for ?_
  | with_reducible refine s_rng1 ?_
  | ((with_reducible refine s_rng1i ?_ ?_); (constructor <;> omega))
  | with_reducible refine s_rng2 ?_
  | ((with_reducible refine s_rng2i ?_ ?_); (refine ⟨?_, ?_, ?_, ?_⟩ <;> omega))
  | with_reducible refine s_iStr ?_
  | with_reducible refine s_iStrS ?_
  | with_reducible refine s_iList ?_
  | ((with_reducible apply s_iListA); (walk_at "sq"))
  | with_reducible refine s_iTup ?_
  | ((with_reducible apply s_iTupA); (walk_at "sqt"))
  | with_reducible refine s_sl ?_
  | with_reducible refine s_noPart ?_
  | with_reducible refine s_part ?_
  | with_reducible refine s_int1 ?_
  | ((with_reducible refine s_slS ?_ ?_); (walk_at "sz"))
  | with_reducible refine s_tup ?_
  | with_reducible refine s_lst ?_
  | with_reducible refine s_par ?_
  | with_reducible refine s_pair ?_
  | with_reducible refine s_M1 ?_
  | with_reducible refine s_isStr ?_
  | with_reducible refine s_revS ?_
  | ((with_reducible refine s_revS1 ?_ ?_); (walk_at "sz"))
  | with_reducible refine s_fldE ?_
  | with_reducible refine s_propE ?_
  | ((with_reducible refine u_draw ?_ ?_ ?_ ?_); omega; omega; (walk_at "pool"); (intro _ _ _ _ _ _))
  | ((with_reducible refine u_pool ?_); (intro _ _ _ _ _))
  | with_reducible refine u_is_integer ?_
  | with_reducible refine s_isiII ?_
  | with_reducible refine s_isiIB ?_
  | with_reducible refine s_isiSS ?_
  | ((with_reducible apply u_fldRing); assumption; (walk_at "ring"))
  | ((with_reducible apply u_textP); (walk_at "ring"))
  | ((with_reducible apply u_strRing); (walk_at "ring"))
  | ((with_reducible apply u_eqRing); (walk_at "ring"); (walk_at "ring"))
  | ((with_reducible apply u_isiRing); assumption; (walk_at "ring"))
  | ((with_reducible refine u_is_word ?_ ?_); omega; (intro _ _))
  | ((with_reducible refine u_turnings ?_ ?_); omega; (intro _ _ _ _ _))
  | with_reducible refine s_makeE ?_
  | with_reducible refine s_methE ?_)
local macro_rules | `(tactic| walk_at "go") => `(tactic| repeat (walk_at "st"))
local macro_rules | `(tactic| walk_at "exs") => `(tactic| first | exact Ex.rfl | assumption | (apply Ex.snoc (by assumption); walk_at "exs") | (apply Ex.snocW (by assumption); walk_at "exs"))
local macro_rules | `(tactic| walk_at "kind") => `(tactic| first | assumption | (apply KindAt.ex0 (by assumption); (walk_at "kind")) | (apply KindAt.exP (by assumption) (by assumption); (walk_at "kind")))
local macro_rules | `(tactic| walk_at "st") => `(tactic| first
  | with_reducible refine s_lenSet ?_
  | with_reducible refine s_drop ?_
  | with_reducible refine s_bm ?_
  | with_reducible refine s_notN ?_
  | with_reducible refine s_isN ?_
  | ((with_reducible apply s_tyL); (walk_at "hp"))
  | with_reducible refine s_enumT ?_
  | ((with_reducible apply s_enumTA); (walk_at "sqt"))
  | with_reducible refine s_lc2 ?_)
local macro_rules | `(tactic| walk_at "lit") => `(tactic| exact lit_MRK)
local macro_rules | `(tactic| walk_at "st") => `(tactic| first
  | with_reducible refine s_dcT ?_
  | with_reducible refine s_dc ?_)
local macro_rules | `(tactic| walk_at "lit") => `(tactic| exact lit_z)
def t_Loop_signs (K : PySem.W.Frag) : TS :=
  (tRet (tFld K (tVar 0) "letters"))
section
variable {K : PySem.W.Frag} {vs : List V} {H H' : Hp} {Q : VK} {E : XK} {x : Addr} {M : LM}
theorem pure_Loop_signs (F : LoopK K) (h : sp_Loop_signs K vs H Q E) : t_Loop_signs K (E1 Q) (start ["self"] vs) H := by
  obtain ⟨x, rfl, M, hx, k⟩ := h
  show t_Loop_signs K (E1 Q) [some (.ref x)] H
  unfold t_Loop_signs
  walk_at "go"
  exact u_fLetters F hx k
end
end WB
namespace WB
open PySem PySem.Spec PyProof.Rows L2
theorem lit_s : ("s" : Str) = S [115] := by decide +kernel
structure MD where
  n : Nat
  s : List Nat
  nm : List (List Nat)
  T : Nat → Nat → Nat × Int
  En : Nat → Nat × Int
  ys : List Nat
structure GoodMD (D : MD) : Prop where
  n1 : 1 ≤ D.n
  n6 : D.n ≤ 6
  s : goodS D.s
  srt : sgn D.s = D.s
  nm : goodSt D.nm
  len : D.nm.length = D.n
  T : ∀ i, i < D.n → ∀ c ∈ D.s, (D.T i c).1 < D.n ∧ (D.T i c).2.natAbs ≤ 2 ^ 50
  En : ∀ i, i < D.n → (D.En i).1 < D.n ∧ (D.En i).2.natAbs ≤ 2 ^ 50
  ys : D.ys.Nodup ∧ ∀ y ∈ D.ys, y < D.n
def kI (i : Nat) : Key := .inl (i : Int)
def KeysIn (kt : List (List Key × V)) (n : Nat) (s : List Nat) : Prop := ∀ e ∈ kt, ∃ i, i < n ∧ ∃ c ∈ s, e.1 = [kI i, kS [c]]
def StepsOk (K : PySem.W.Frag) (H : Hp) (kt : List (List Key × V)) (D : MD) : Prop := (∀ i, i < D.n → ∀ c ∈ D.s, ∃ p, valV kt [kI i, kS [c]] = some (.ref p) ∧ SqT K H p [.int ((D.T i c).1 : Nat), .int (D.T i c).2]) ∧ kt.length ≤ 1000 ∧ KeysIn kt D.n D.s
def EndsOk (K : PySem.W.Frag) (H : Hp) (ee : Addr) (D : MD) : Prop := ∃ xs, H ee = some (.lst xs) ∧ Tups K H xs ((List.range D.n).map fun i => [V.int ((D.En i).1 : Nat), .int (D.En i).2])
def rowsD (D : MD) : List Rw := (List.range D.n).flatMap fun i => D.s.map fun c => ⟨D.nm.getD i [], c, D.nm.getD (D.T i c).1 [], (D.T i c).2⟩
def turnsD (D : MD) : List Tn := (List.range D.n).map fun i => ⟨D.nm.getD i [], D.nm.getD (D.En i).1 [], (D.En i).2⟩
def yesD (D : MD) : List (List Nat) := D.ys.map fun y => D.nm.getD y []
def loopD (D : MD) : LM := mkLM D.s D.nm (rowsD D) (turnsD D) (yesD D)
section
variable {D : MD}
theorem nm_get (g : GoodMD D) {i : Nat} (hi : i < D.n) : D.nm[i]? = some (D.nm.getD i []) := by
  have h : i < D.nm.length := by rw [g.len]; exact hi
  rw [List.getD_eq_getElem?_getD, List.getElem?_eq_getElem h]
  rfl
theorem nm_in (g : GoodMD D) {i : Nat} (hi : i < D.n) : D.nm.getD i [] ∈ D.nm := List.mem_of_getElem? (nm_get g hi)
theorem nm_inj (g : GoodMD D) {i j : Nat} (hi : i < D.n) (hj : j < D.n) (e : D.nm.getD i [] = D.nm.getD j []) : i = j := by
  have h1 := nm_get g hi
  have h2 := nm_get g hj
  rw [e, ← h2] at h1
  exact (List.getElem?_inj (by rw [g.len]; exact hi) g.nm.2.2.1).mp h1
theorem names_map (g : GoodMD D) : (List.range D.n).map (fun i => D.nm.getD i []) = D.nm := by
  apply List.ext_getElem?
  intro i
  by_cases h : i < D.n
  · rw [List.getElem?_map, List.getElem?_range h, nm_get g h]
    rfl
  · rw [List.getElem?_eq_none (by simp; omega), List.getElem?_eq_none (by rw [g.len]; omega)]
theorem rowsD_good (g : GoodMD D) : goodRws D.s D.nm (rowsD D) := by
  refine ⟨fun r hr => ?_, ?_, ?_⟩
  · obtain ⟨i, hi, hr⟩ := List.mem_flatMap.mp hr
    obtain ⟨c, hc, rfl⟩ := List.mem_map.mp hr
    have hi := List.mem_range.mp hi
    exact ⟨nm_in g hi, hc, nm_in g (g.T i hi c hc).1⟩
  · have h := pairs_nodup g.s.2.2 g.nm.2.2.1
    have e : (rowsD D).map (fun r => (r.a, r.c)) = D.nm.flatMap fun a => D.s.map fun c => (a, c) := by
      conv => rhs; rw [← names_map g]
      unfold rowsD
      rw [List.map_flatMap, List.flatMap_map]
      congr 1
      funext i
      rw [List.map_map]
      rfl
    rw [e]
    exact h
  · have : ∀ l : List Nat, (l.flatMap fun i => D.s.map fun c => (⟨D.nm.getD i [], c, D.nm.getD (D.T i c).1 [], (D.T i c).2⟩ : Rw)).length = D.s.length * l.length := by
      intro l
      induction l with
      | nil => simp
      | cons a l ih => rw [List.flatMap_cons, List.length_append, ih, List.length_map, List.length_cons, Nat.mul_succ, Nat.add_comm]
    unfold rowsD
    rw [this, List.length_range, g.len]
theorem turnsD_good (g : GoodMD D) : goodTns D.nm (turnsD D) := by
  refine ⟨fun t ht => ?_, ?_⟩
  · obtain ⟨i, hi, rfl⟩ := List.mem_map.mp ht
    have hi := List.mem_range.mp hi
    exact ⟨nm_in g hi, nm_in g (g.En i hi).1⟩
  · unfold turnsD
    rw [List.map_map]
    have : ((fun t : Tn => t.a) ∘ fun i => (⟨D.nm.getD i [], D.nm.getD (D.En i).1 [], (D.En i).2⟩ : Tn)) = fun i => D.nm.getD i [] := rfl
    rw [this, names_map g]
    exact g.nm.2.2.1
end
theorem mk_good {s : List Nat} {st : List (List Nat)} {rs : List Rw} {ts : List Tn} {ys : List (List Nat)} (hs : goodS s) (hst : goodSt st) (hr : goodRws s st rs) (ht : goodTns st ts) : GoodM (mkLM s st rs ts ys) := by
  refine ⟨goodS_sgn hs, hst, fun a ha c hc => ?_, fun a ha => ?_, fun a ha => (List.mem_filter.mp ha).1⟩
  · show (tbOf rs a c).1 ∈ st
    unfold tbOf
    cases h : rs.find? fun r => decide (r.a = a ∧ r.c = c) with
    | none => exact ha
    | some r => exact (hr.1 r (List.mem_of_find?_eq_some h)).2.2
  · show (enOf ts a).1 ∈ st
    unfold enOf
    cases h : ts.find? fun t => decide (t.a = a) with
    | none => exact ha
    | some t => exact (ht.1 t (List.mem_of_find?_eq_some h)).2
theorem loopD_good {D : MD} (g : GoodMD D) : GoodM (loopD D) := mk_good g.s g.nm (rowsD_good g) (turnsD_good g)
def hidA (H : Hp) (a : Addr) : Hp := fun b => if b = a then none else H b
theorem hidA_ex {H : Hp} {a : Addr} : Ex [] (hidA H a) H := fun b o _ h => by
  unfold hidA at h
  split at h
  · cases h
  · exact h
theorem hidA_to {H : Hp} {a : Addr} : Ex [a] H (hidA H a) := fun b o n h => by
  unfold hidA
  rw [if_neg (fun z => n (by rw [z]; exact List.mem_cons_self))]
  exact h
def sp_lawP_pick (K : PySem.W.Frag) : Sp := fun vs H Q _ => ∃ (a : Addr) (m : Int), vs = [.ref a, .int m] ∧ 0 < m ∧ m < 1073741824 ∧ PoolAt H a ∧ ∀ (r : Int) (H' : Hp), 0 ≤ r → r < m → Ex [a] H H' → PoolAt H' a → Q (.int r) H'
section
variable {K : PySem.W.Frag} {H H' : Hp} {Q : VK} {E : XK} {a q : Addr} {D : MD}
theorem u_pick {m : Int} (h0 : 0 < m) (h1 : m < 1073741824) (hp : PoolAt H a) (k : ∀ (r : Int) (H' : Hp), 0 ≤ r → r < m → Ex [a] H H' → PoolAt H' a → Q (.int r) H') : sp_lawP_pick K ([.ref a, .int m] ++ []) H Q E := ⟨a, m, rfl, h0, h1, hp, k⟩
end
end WB
namespace WB
open PySem PySem.Spec PyProof.Rows L2 ClX
section
variable {X : Cx} {CX : CXT} {k n : Nat} {C fI : Addr} {fd : FuncData} {ps ks : List Str} {sp : Sp} {E : XK} {x : Str} {q1 pos : Pos} {e : Expr} {es : List Expr} {kws : List Keyword} {t tk : TA} {g : List Value → List Value → List Value} {gV : List V → List V → List V}
def tMakeLK (i : Nat) (C : Addr) (n m : Nat) (sp : Sp) (gV : List V → List V → List V) (E : XK) (t tk : TA) : TE := fun σ H Q => σ[i]? = some (some (.ref C)) ∧ tMakeK C n m sp gV E t tk σ H Q
theorem pe_makeLK {i : Nat} (M : Mk X.K C fI) (F : FnOk X.prog X.w X.K X.mg X.base CX k fI fd ps sp) (hr : Room (k + 1) X.A) (hN : X.N[i]? = some x) (hv : Vis X.env.scope x) (hb : KBn X.K fd ps (n + 1) ks g gV) (hx : Passes CX X E) (ha : PA X (e :: es) t) (hkw : PK X kws tk)
    (hall : (backToKw pos (keywordEach kws X.env)).all (·.1.isSome) = true := by rfl) (hks : (backToKw pos (keywordEach kws X.env)).filterMap (·.1) = ks := by rfl)
    (hdb : (x == ("__debug__" : Str)) = false := by decide) (hcd : (x == ("__classdict__" : Str)) = false := by decide)
    (he : starEach (e :: es) X.env = (false, eval e X.env) :: starEach es X.env := by rfl) (hpl : ((backTo pos (starEach (e :: es) X.env)).any (·.1) || (backToKw pos (keywordEach kws X.env)).any (·.1.isNone)) = false := by rfl) :
    PE X (.Call (.Name x q1) (e :: es) kws pos) (tMakeLK i C n ks.length sp gV E t tk) := by
  refine ⟨fun pins s σ H Q I h => ?_⟩
  obtain ⟨hs, ht⟩ := h
  refine wpAny_Call_Name_kw (thn ((pe_var (pos := q1) hN hv hdb hcd).run pins s σ H (fun v H1 => v = .ref C ∧ H1 = H) I ⟨.ref C, hs, rfl, rfl⟩) fun u s0 ⟨v, H0, I0, r0, z⟩ => ?_)
  obtain ⟨rfl, rfl⟩ := z
  cases r0
  refine PySem.W.callWith_KW (h₀ := X.base) I.ok.mod.kin M.kp hall (thn (ha.run pos pins s0 σ _ _ I0 ht) fun us s1 ⟨vs, H1, I1, r, q⟩ => ?_) hpl he
  refine thn (hkw.run pos pins s1 σ H1 _ I1 q) fun ws s2 ⟨zs, H2, I2, rz, l1, l2, q2⟩ => ⟨I2.kIn, ?_⟩
  rw [hks]
  exact run_makeK M F hr hb hx I2 r rz l1 l2 q2
theorem s_makeLK {i m : Nat} {σ : St} {H : Hp} {Q : VK} (h : σ[i]? = some (some (.ref C))) (k : t σ H fun vs H1 => tk σ H1 fun zs H2 => MakeKG C n m sp gV E vs zs H2 Q) : tMakeLK i C n m sp gV E t tk σ H Q := ⟨h, s_makeK k⟩
end
end WB
namespace WB
open PySem PySem.Spec PyProof.Rows L2
theorem mk_loopG {K : PySem.W.Frag} {H : Hp} {Q : VK} {E : XK} {n m : Nat} {gV : List V → List V → List V} {us zs : List V} {M' : LM} {o r t y : Addr} {st : List (List Nat)} {rs : List Rw} {ts : List Tn} {ys : List (List Nat)} {s : List Nat} (lu : us.length = n) (lz : zs.length = m) (eg : ∀ x : Addr, gV (.ref x :: us) zs = [.ref x, vS s, .ref o, .ref r, .ref t, .ref y])
    (hs : goodS s) (ho : SqT K H o (st.map vS)) (hst : goodSt st) (hr : TupsAt K H r (rs.map rwV)) (hrs : goodRws s st rs) (ht : TupsAt K H t (ts.map tnV)) (hts : goodTns st ts) (hy : SqT K H y (ys.map vS)) (hys : goodYes st ys)
    (q1 : M'.ab = sgn s) (q2 : M'.st = st) (q3 : ∀ a ∈ st, ∀ c ∈ sgn s, M'.tb a c = tbOf rs a c) (q4 : ∀ a ∈ st, M'.en a = enOf ts a) (q5 : M'.ok = st.filter fun a => decide (a ∈ ys)) (k : ∀ x H', Ex [] H H' → LoopAt K H' x M' → Q (.ref x) H') :
    MakeKG (He.ga K "Loop") n m (sp_Loop_init K) gV E us zs H Q := by
  refine ⟨lu, lz, fun x dx hx hdx hne => ?_⟩
  have ex : Ex [] H (upd (upd H dx (.own x)) x (.ins (He.ga K "Loop") dx [])) := by
    refine (Ex.new hdx).trans (Ex.new ?_)
    rw [upd_ne (Ne.symm hne)]
    exact hx
  rw [eg]
  refine ⟨x, s, o, r, t, y, dx, rfl, upd_same, st, rs, ts, ys, hs, ex.sqT (by simp) ho, hst, hr.ex0 ex, hrs, ht.ex0 ex, hts, ex.sqT (by simp) hy, hys, fun H2 e2 hl => ⟨rfl, ?_⟩⟩
  refine k x H2 (Ex.dropN hx ex e2) ?_
  exact LoopAt.same (M := mkLM s st rs ts ys) q1 q2 q3 q4 q5 hl
section
variable {K : PySem.W.Frag} {H H' : Hp} {Q : VK} {E : XK} {a p q x : Addr} {M : LM} {v : V} {xs : List V}
def SeqV (K : PySem.W.Frag) (H : Hp) (v : V) (xs : List V) : Prop := (∃ l : List Nat, v = vS l ∧ xs = l.map fun c => vS [c]) ∨ ∃ t, v = .ref t ∧ (SqL K H t xs ∨ SqT K H t xs)
theorem SeqV.ex0 (e : Ex [] H H') (h : SeqV K H v xs) : SeqV K H' v xs := by
  rcases h with h | ⟨t, rfl, h | h⟩
  · exact .inl h
  · exact .inr ⟨t, rfl, .inl (e.sqL (by simp) h)⟩
  · exact .inr ⟨t, rfl, .inr (e.sqT (by simp) h)⟩
def sp_Loop_made (K : PySem.W.Frag) : Sp := fun vs H Q _ => ∃ q : Addr, vs = [.ref (He.ga K "Loop"), .ref q] ∧ ∃ M : LM, LRowAt K H q M ∧ GL M ∧ ∀ x H', Ex [] H H' → LoopAt K H' x M → Q (.ref x) H'
theorem LRowAt.exP (hp : PoolAt H a) (e : Ex [a] H H') (h : LRowAt K H p M) : LRowAt K H' p M := by
  obtain ⟨o, r, t, y, h1, h2, h3, h4, h5⟩ := h
  exact ⟨o, r, t, y, sqT_pool hp e h1, sqT_pool hp e h2, h3.exP hp e, h4.exP hp e, sqT_pool hp e h5⟩
theorem Tups.cons {x : V} {l : List V} {ls : List (List V)} (h0 : ∃ p, x = .ref p ∧ SqT K H p l) (h : Tups K H xs ls) : Tups K H (x :: xs) (l :: ls) := ⟨by simp [h.1], fun i y m h1 h2 => by
  cases i with
  | zero => cases h1; cases h2; exact h0
  | succ i => exact h.2 i y m h1 h2⟩
theorem Tups.un {x : V} {l : List V} {ls : List (List V)} (h : Tups K H (x :: xs) (l :: ls)) : (∃ p, x = .ref p ∧ SqT K H p l) ∧ Tups K H xs ls := ⟨h.2 0 x l rfl rfl, by simpa using h.1, fun i y m h1 h2 => h.2 (i + 1) y m h1 h2⟩
end
end WB
namespace WB
open PySem PySem.Spec PyProof.Rows L2
def sDiffer : List Nat := [100, 105, 102, 102, 101, 114]
structure KdL (K : PySem.W.Frag) (w : World) : Prop where
  l : KdE K w (He.ga K "LENGTHS") "differ" (.int 6)
  j : KdE K w (He.ga K "JUDGES") "differ" (.ref (He.ga K "shows_differ"))
inductive El7 (K : PySem.W.Frag) (m : List Addr) (H : Hp) : V → Prop
  | str (l : List Nat) : l.length ≤ 10000 → plain l → El7 K m H (vS l)
  | int (i : Int) : El7 K m H (.int i)
  | oth (v : V) (n : String) : n ≠ "str" → n ≠ "int" → (∀ H', Ex m H H' → Kd K H' v n) → El7 K m H v
theorem El7.ex {K : PySem.W.Frag} {m : List Addr} {H H' : Hp} {v : V} (e : Ex m H H') (h : El7 K m H v) : El7 K m H' v := by
  cases h with
  | str l h1 h2 => exact .str l h1 h2
  | int i => exact .int i
  | oth v n h1 h2 h3 => exact .oth v n h1 h2 fun H2 e2 => h3 H2 (e.trans e2)
theorem El7.less {K : PySem.W.Frag} {m : List Addr} {H : Hp} {v : V} (h : El7 K m H v) : El7 K [] H v := by
  cases h with
  | str l h1 h2 => exact .str l h1 h2
  | int i => exact .int i
  | oth v n h1 h2 h3 => exact .oth v n h1 h2 fun H2 e2 => h3 H2 fun b o _ hb => e2 b o (by simp) hb
inductive Rs7 (K : PySem.W.Frag) (m : List Addr) (H : Hp) : V → Prop
  | tup (p : Addr) (xs : List V) : (∀ H', Ex m H H' → SqT K H' p xs) → xs.length ≤ 10 → (∀ x ∈ xs, El7 K m H x) → Rs7 K m H (.ref p)
  | str (l : List Nat) : l.length ≤ 10000 → plain l → Rs7 K m H (vS l)
  | int (i : Int) : Rs7 K m H (.int i)
  | oth (v : V) (n : String) : n ≠ "str" → n ≠ "int" → n ≠ "tuple" → (∀ H', Ex m H H' → Kd K H' v n) → Rs7 K m H v
theorem Rs7.ex {K : PySem.W.Frag} {m : List Addr} {H H' : Hp} {v : V} (e : Ex m H H') (h : Rs7 K m H v) : Rs7 K m H' v := by
  cases h with
  | tup p xs h1 h2 h3 => exact .tup p xs (fun H2 e2 => h1 H2 (e.trans e2)) h2 fun x hx => (h3 x hx).ex e
  | str l h1 h2 => exact .str l h1 h2
  | int i => exact .int i
  | oth v n h1 h2 h4 h3 => exact .oth v n h1 h2 h4 fun H2 e2 => h3 H2 (e.trans e2)
def Pp7 (K : PySem.W.Frag) (m : List Addr) (H : Hp) (v : V) (pe : Bool) : Prop := ∀ H', Ex m H H' → (∃ p xs, v = .ref p ∧ SqT K H' p xs ∧ pe = decide (xs.length = 0) ∧ xs.length ≤ 10) ∨ (pe = false ∧ ∃ n, n ≠ "tuple" ∧ Kd K H' v n)
theorem Pp7.ex {K : PySem.W.Frag} {m : List Addr} {H H' : Hp} {v : V} {pe : Bool} (e : Ex m H H') (h : Pp7 K m H v pe) : Pp7 K m H' v pe := fun H2 e2 => h H2 (e.trans e2)
theorem Pp7.less {K : PySem.W.Frag} {m : List Addr} {H : Hp} {v : V} {pe : Bool} (h : Pp7 K m H v pe) : Pp7 K [] H v pe := fun H2 e2 => h H2 fun b o _ hb => e2 b o (by simp) hb
theorem Rs7.pp {K : PySem.W.Frag} {m : List Addr} {H : Hp} {v : V} (h : Rs7 K m H v) : ∃ pe, Pp7 K m H v pe := by
  cases h with
  | tup p xs h1 h2 h3 => exact ⟨decide (xs.length = 0), fun H2 e2 => .inl ⟨p, xs, rfl, h1 H2 e2, rfl, h2⟩⟩
  | str l h1 h2 => exact ⟨false, fun H2 _ => .inr ⟨rfl, "str", by decide, Kd.str⟩⟩
  | int i => exact ⟨false, fun H2 _ => .inr ⟨rfl, "int", by decide, Kd.int⟩⟩
  | oth v n h1 h2 h4 h3 => exact ⟨false, fun H2 e2 => .inr ⟨rfl, n, h4, h3 H2 e2⟩⟩
def ansM (M : LM) (u : List Nat) (i : Int) : Int × Bool := (cnt M u (i.toNat - 1), decide (orb M u i.toNat ∈ M.ok))
def Dif7 (M : LM) (ps : List (List Nat)) (rest : List V) (pe : Bool) : Prop := pe = true ∧ ∃ (u v : List Nat) (i : Int), rest = [vS u, vS v, .int i] ∧ isWord u LET = true ∧ isWord v LET = true ∧ 1 ≤ i ∧ i ≤ 99 ∧ closesB u ps = true ∧ leastT u = leastT v ∧ ansM M u i ≠ ansM M v i
def sp_is_lap (K : PySem.W.Frag) : Sp := fun vs H Q _ => ∃ v : V, vs = [v] ∧ ((∃ i, v = .int i ∧ Q (.bl (decide (1 ≤ i ∧ i ≤ 99))) H) ∨ (∃ n, Kd K H v n ∧ n ≠ "int" ∧ Q (.bl false) H))
def sp_shows_differ (K : PySem.W.Frag) : Sp := fun vs H Q _ => ∃ (x k p : Addr) (c : V), vs = [.ref x, .ref k, .ref p, c] ∧ ∃ (M : LM) (cs : List Nat) (ps : List (List Nat)) (v1 v2 v3 : V) (pe : Bool), LoopAt K H x M ∧ GoodM M ∧ KindAt K H k cs ps ∧ (∀ q ∈ ps, ∀ c ∈ q, c ∈ M.ab) ∧ SqT K H p [v1, v2, v3] ∧ El7 K [] H v1 ∧ El7 K [] H v2 ∧ El7 K [] H v3 ∧ Pp7 K [] H c pe ∧
  ∀ (b : Bool) H', Ex [] H H' → (b = true ↔ Dif7 M ps [v1, v2, v3] pe) → Q (.bl b) H'
def sp_loop_of (K : PySem.W.Frag) : Sp := fun vs H Q _ => ∃ q : Addr, vs = [.ref q] ∧ ∃ M : LM, LRowAt K H q M ∧ GL M ∧ ∀ x H', Ex [] H H' → LoopAt K H' x M → Q (.ref x) H'
def sp_kind_of (K : PySem.W.Frag) : Sp := fun vs H Q _ => ∃ q : Addr, vs = [.ref q] ∧ ∃ l ps, RowAt K H q l ps ∧ goodRow l ps ∧ ∀ x H', Ex [] H H' → KindAt K H' x l ps → Q (.ref x) H'
def sp_accepts (K : PySem.W.Frag) (w : World) : Sp := fun vs H Q _ => ∃ (p : Addr) (c : V), vs = [.ref p, c] ∧ ∃ (r k : Addr) (rest : List V) (M : LM) (cs : List Nat) (ps : List (List Nat)) (pe : Bool), SqT K H p (vS sDiffer :: .ref r :: .ref k :: rest) ∧ rest.length ≤ 100 ∧ (∀ v ∈ rest, El7 K [] H v) ∧ LRowAt K H r M ∧ GL M ∧ RowAt K H k cs ps ∧ goodRow cs ps ∧ (∀ c ∈ cs, c ∈ M.ab) ∧ Pp7 K [] H c pe ∧
  ∀ (b : Bool) H', Ex [] H H' → (b = true ↔ Dif7 M ps rest pe) → Q (.bl b) H'
def sp_law7_cell (K : PySem.W.Frag) : Sp := fun vs H Q _ => ∃ (a : Addr) (ns : List Int) (k : Int), vs = [.ref a, .int k] ∧ SqL K H a (ns.map V.int) ∧ ns.length ≤ 63 ∧ 0 ≤ k ∧ k < 1000 ∧ ∀ c H', Ex [] H H' → Q (.int c) H'
def sp_law7_purse (K : PySem.W.Frag) : Sp := fun vs H Q _ => ∃ c : Int, vs = [.int c] ∧ ∀ p H', H p = none → Ex [] H H' → PoolAt H' p → Q (.ref p) H'
def sp_law7_pick (K : PySem.W.Frag) : Sp := fun vs H Q _ => ∃ (a : Addr) (m : Int), vs = [.ref a, .int m] ∧ 0 < m ∧ m < 1073741824 ∧ PoolAt H a ∧ ∀ (r : Int) (H' : Hp), 0 ≤ r → r < m → Ex [a] H H' → PoolAt H' a → Q (.int r) H'
def sp_law_wholeK (K : PySem.W.Frag) : Sp := fun vs H Q _ => ∃ (v : V) (n : String), vs = [v] ∧ Kd K H v n ∧ Q (.bl (decide (n = "int"))) H
def sp_law7_amount (K : PySem.W.Frag) : Sp := fun vs H Q _ => ∃ a : Addr, vs = [.ref a] ∧ PoolAt H a ∧ ∀ (r : Int) (H' : Hp), r.natAbs ≤ 2 ^ 49 → Ex [a] H H' → PoolAt H' a → Q (.int r) H'
def Sg7 (s : List Nat) : Prop := goodS s ∧ sgn s = s ∧ s.length ≤ 3 ∧ 114 ∉ s
def sp_law7_signs (K : PySem.W.Frag) : Sp := fun vs H Q _ => ∃ a : Addr, vs = [.ref a] ∧ PoolAt H a ∧ ∀ (s : List Nat) (H' : Hp), Sg7 s → Ex [a] H H' → PoolAt H' a → Q (vS s) H'
def sp_law7_wider (K : PySem.W.Frag) : Sp := fun vs H Q _ => ∃ (a : Addr) (s : List Nat), vs = [.ref a, vS s] ∧ PoolAt H a ∧ Sg7 s ∧ ∀ (t : List Nat) (H' : Hp), goodS t → sgn t = t → (∀ c ∈ s, c ∈ t) → Ex [a] H H' → PoolAt H' a → Q (vS t) H'
structure Good7 (D : MD) : Prop where
  n1 : 1 ≤ D.n
  n3 : D.n ≤ 3
  s : goodS D.s
  srt : sgn D.s = D.s
  T : ∀ i, i < D.n → ∀ c ∈ D.s, (D.T i c).1 < D.n ∧ (D.T i c).2.natAbs ≤ 2 ^ 50
  En : ∀ i, i < D.n → (D.En i).1 < D.n ∧ (D.En i).2.natAbs ≤ 2 ^ 50
  ys : D.ys.Nodup ∧ ∀ y ∈ D.ys, y < D.n
  ord : D.ys = (List.range D.n).filter fun i => decide (i ∈ D.ys)
def M7At (K : PySem.W.Frag) (H : Hp) (q : Addr) (D : MD) : Prop := ∃ ss ee yy kt, SqT K H q [vS D.s, .int (D.n : Nat), .ref ss, .ref ee, .ref yy] ∧ H ss = some (.dT kt) ∧ StepsOk K H kt D ∧ EndsOk K H ee D ∧ H yy = some (.lst ((List.range D.n).map fun i => V.bl (decide (i ∈ D.ys))))
def sp_law7_model (K : PySem.W.Frag) : Sp := fun vs H Q _ => ∃ (a : Addr) (s : List Nat) (n : Int), vs = [.ref a, vS s, .int n] ∧ goodS s ∧ sgn s = s ∧ 1 ≤ n ∧ n ≤ 3 ∧ PoolAt H a ∧ ∀ (q : Addr) (D : MD) (H' : Hp), Good7 D → D.s = s → (D.n : Int) ≤ n → Ex [a] H H' → PoolAt H' a → M7At K (hidA H' a) q D → Q (.ref q) H'
def sp_law7_tags (K : PySem.W.Frag) : Sp := fun vs H Q _ => ∃ (a : Addr) (m : Int), vs = [.ref a, .int m] ∧ 1 ≤ m ∧ m ≤ 3 ∧ PoolAt H a ∧ ∀ (st : List (List Nat)) (p : Addr) (H' : Hp), goodSt st → (st.length : Int) = m → H p = none → Ex [a] H H' → PoolAt H' a → H' p = some (.lst (st.map vS)) → Q (.ref p) H'
def nmD (D : MD) (st : List (List Nat)) : MD := ⟨D.n, D.s, st, D.T, D.En, D.ys⟩
def sp_law7_row (K : PySem.W.Frag) : Sp := fun vs H Q _ => ∃ q t : Addr, vs = [.ref q, .ref t] ∧ ∃ (D : MD) (st : List (List Nat)), M7At K H q D ∧ Good7 D ∧ goodSt st ∧ st.length = D.n ∧ H t = some (.lst (st.map vS)) ∧ ∀ p H', Ex [] H H' → LRowAt K H' p (loopD (nmD D st)) → Q (.ref p) H'
def sp_law7_pairs (K : PySem.W.Frag) : Sp := fun vs H Q _ => ∃ (a : Addr) (s : List Nat), vs = [.ref a, vS s] ∧ PoolAt H a ∧ goodS s ∧ sgn s = s ∧ ∀ (ps : List (List Nat)) (q : Addr) (H' : Hp), goodRow s ps → H q = none → Ex [a] H H' → PoolAt H' a → H' q = some (.lst (ps.map vS)) → Q (.ref q) H'
def sp_law7_words (K : PySem.W.Frag) : Sp := fun vs H Q _ => ∃ (s : List Nat) (q : Addr), vs = [vS s, .ref q, .int 4] ∧ ∃ ps : List (List Nat), goodS s ∧ H q = some (.lst (ps.map vS)) ∧ ps.length < 64 ∧ ∀ (ws : List (List Nat)) (p : Addr) (H' : Hp), (∀ u ∈ ws, 1 ≤ u.length ∧ u.length ≤ 4 ∧ ∀ c ∈ u, c ∈ s) → ws.length ≤ 1000 → Ex [] H H' → H' p = some (.lst (ws.map vS)) → Q (.ref p) H'
def sp_law7_answers (K : PySem.W.Frag) : Sp := fun vs H Q _ => ∃ (q : Addr) (u : List Nat) (n : Nat), vs = [.ref q, vS u, .int (n : Nat)] ∧ ∃ (D : MD) (st : List (List Nat)), M7At K H q D ∧ Good7 D ∧ goodSt st ∧ st.length = D.n ∧ inAb (loopD (nmD D st)) u ∧ n ≤ 200 ∧
  ∀ p H', H p = none → Ex [] H H' → (∃ xs, H' p = some (.lst xs) ∧ Tups K H' xs ((List.range n).map fun i => [V.int (cnt (loopD (nmD D st)) u i), .bl (decide (orb (loopD (nmD D st)) u (i + 1) ∈ (loopD (nmD D st)).ok))])) → Q (.ref p) H'
def per7 (n : Nat) : Nat := [1, 1, 2, 6].getD n 0
def near7 (i : Int) (n : Nat) : Int := if i < (n : Int) + per7 n then i else n + (i - n) % (per7 n : Int)
def sp_law7_near (K : PySem.W.Frag) : Sp := fun vs H Q _ => ∃ (i : Int) (n : Nat), vs = [.int i, .int (n : Nat)] ∧ 1 ≤ n ∧ n ≤ 3 ∧ ∀ H', Ex [] H H' → Q (.int (near7 i n)) H'
def sp_law7_answer (K : PySem.W.Frag) : Sp := fun vs H Q _ => ∃ (q : Addr) (u : List Nat) (i : Int), vs = [.ref q, vS u, .int i] ∧ ∃ (D : MD) (st : List (List Nat)), M7At K H q D ∧ Good7 D ∧ goodSt st ∧ st.length = D.n ∧ inAb (loopD (nmD D st)) u ∧ 1 ≤ i ∧ i ≤ 99 ∧
  ∀ p H', Ex [] H H' → SqT K H' p [V.int (ansM (loopD (nmD D st)) u i).1, .bl (ansM (loopD (nmD D st)) u i).2] → Q (.ref p) H'
def sp_law7_odd (K : PySem.W.Frag) : Sp := fun vs H Q _ => ∃ a : Addr, vs = [.ref a] ∧ PoolAt H a ∧ ∀ (v : V) (H' : Hp), Ex [a] H H' → PoolAt H' a → Rs7 K [a] H' v → Q v H'
inductive In7 : V → Prop
  | str (l : List Nat) : 1 ≤ l.length → l.length ≤ 4000 → plain l → In7 (vS l)
  | int (i : Int) : In7 (.int i)
def sp_law7_bent (K : PySem.W.Frag) : Nat → Sp
  | 0 => fun _ _ _ _ => False
  | n + 1 => fun vs H Q _ => ∃ (a : Addr) (v : V), vs = [.ref a, v] ∧ PoolAt H a ∧ ((In7 v ∧ ∀ (y : V) (H' : Hp), Ex [a] H H' → PoolAt H' a → El7 K [a] H' y → Q y H') ∨ (1 ≤ n ∧ ∃ (p : Addr) (xs : List V), v = .ref p ∧ H p = some (.tup xs) ∧ p ≠ a ∧ 1 ≤ xs.length ∧ xs.length ≤ 3 ∧ (∀ x ∈ xs, In7 x) ∧ ∀ (y : V) (H' : Hp), Ex [a] H H' → PoolAt H' a → Rs7 K [a] H' y → Q y H'))
def sp_law7_is_ring (K : PySem.W.Frag) : Sp := fun vs H Q _ => ∃ (u : List Nat) (q : Addr), vs = [vS u, .ref q] ∧ ∃ ps : List (List Nat), u ≠ [] ∧ u.length ≤ 600 ∧ H q = some (.lst (ps.map vS)) ∧ ps.length ≤ 100 ∧ ∀ H', Ex [] H H' → Q (.bl (closesB u ps)) H'
def sp_law7_turns (K : PySem.W.Frag) : Sp := fun vs H Q _ => ∃ u v : List Nat, vs = [vS u, vS v] ∧ u ≠ [] ∧ v ≠ [] ∧ u.length ≤ 600 ∧ v.length ≤ 600 ∧ Q (.bl (decide (leastT u = leastT v))) H
def sp_law7_is_word (K : PySem.W.Frag) : Sp := fun vs H Q _ => ∃ v : V, vs = [v] ∧ ((∃ l : List Nat, v = vS l ∧ l.length ≤ 10000 ∧ plain l ∧ ∀ H', Ex [] H H' → Q (.bl (isWord l LET)) H') ∨ (∃ n, Kd K H v n ∧ n ≠ "str" ∧ Q (.bl false) H))
def sp_law7_is_lap (K : PySem.W.Frag) : Sp := fun vs H Q _ => ∃ v : V, vs = [v] ∧ ((∃ i, v = .int i ∧ Q (.bl (decide (1 ≤ i ∧ i ≤ 99))) H) ∨ (∃ n, Kd K H v n ∧ n ≠ "int" ∧ Q (.bl false) H))
def sp_law7_lap (K : PySem.W.Frag) : Sp := fun vs H Q _ => ∃ a : Addr, vs = [.ref a] ∧ PoolAt H a ∧ ∀ (r : Int) (H' : Hp), Ex [a] H H' → PoolAt H' a → Q (.int r) H'
def sp_law7_accepted (K : PySem.W.Frag) (w : World) : Sp := fun vs H Q _ => ∃ (p : Addr) (c : V) (bd : Bool), vs = [.ref p, c, .bl bd] ∧ ∃ (r k : Addr) (rest : List V) (M : LM) (cs : List Nat) (ps : List (List Nat)) (pe : Bool), SqT K H p (vS sDiffer :: .ref r :: .ref k :: rest) ∧ rest.length ≤ 100 ∧ (∀ v ∈ rest, El7 K [] H v) ∧ LRowAt K H r M ∧ GL M ∧ RowAt K H k cs ps ∧ goodRow cs ps ∧ (∀ c ∈ cs, c ∈ M.ab) ∧ Pp7 K [] H c pe ∧ (bd = true ↔ Dif7 M ps rest pe) ∧
  ∀ H', Ex [] H H' → Q (.bl true) H'
def RsL (K : PySem.W.Frag) (H : Hp) (v : V) (rest : List V) : Prop := (∃ p, v = .ref p ∧ SqT K H p rest ∧ rest.length ≤ 10 ∧ ∀ x ∈ rest, El7 K [] H x) ∨ (rest = [v] ∧ El7 K [] H v ∧ ∃ n, n ≠ "tuple" ∧ Kd K H v n)
def sp_law7_due (K : PySem.W.Frag) : Sp := fun vs H Q _ => ∃ (q pa : Addr) (v c : V), vs = [.ref q, .ref pa, v, c] ∧ ∃ (D : MD) (st : List (List Nat)) (ps : List (List Nat)) (rest : List V) (pe : Bool), M7At K H q D ∧ Good7 D ∧ goodSt st ∧ st.length = D.n ∧ H pa = some (.lst (ps.map vS)) ∧ ps.length ≤ 100 ∧ (∀ q ∈ ps, ∀ c ∈ q, c ∈ D.s) ∧ RsL K H v rest ∧ Pp7 K [] H c pe ∧
  ∀ (b : Bool) H', Ex [] H H' → (b = true ↔ Dif7 (loopD (nmD D st)) ps rest pe) → Q (.bl b) H'
def sp_law7_right (K : PySem.W.Frag) (w : World) : Sp := fun vs H Q _ => ∃ a : Addr, vs = [.ref a] ∧ PoolAt H a ∧ ∀ H', Ex [a] H H' → Q (.bl true) H'
section
variable {K : PySem.W.Frag} {H : Hp} {Q : VK} {E : XK} {a q : Addr} {v : V}
theorem u_pick7 {m : Int} (h0 : 0 < m) (h1 : m < 1073741824) (hp : PoolAt H a) (k : ∀ (r : Int) (H' : Hp), 0 ≤ r → r < m → Ex [a] H H' → PoolAt H' a → Q (.int r) H') : sp_law7_pick K ([.ref a, .int m] ++ []) H Q E := ⟨a, m, rfl, h0, h1, hp, k⟩
theorem u_whole7 {n : String} (h : Kd K H v n) (k : Q (.bl (decide (n = "int"))) H) : sp_law_wholeK K ([v] ++ []) H Q E := ⟨v, n, rfl, h, k⟩
theorem u_amount7 (hp : PoolAt H a) (k : ∀ (r : Int) (H' : Hp), r.natAbs ≤ 2 ^ 49 → Ex [a] H H' → PoolAt H' a → Q (.int r) H') : sp_law7_amount K ([.ref a] ++ []) H Q E := ⟨a, rfl, hp, k⟩
theorem u_odd7 (hp : PoolAt H a) (k : ∀ (v : V) (H' : Hp), Ex [a] H H' → PoolAt H' a → Rs7 K [a] H' v → Q v H') : sp_law7_odd K ([.ref a] ++ []) H Q E := ⟨a, rfl, hp, k⟩
end
end WB
namespace WB
open PySem PySem.Spec PyProof.Rows L2
theorem l70b_114 : ("r" : Str) = S [114] := by decide +kernel
theorem l70b_97 : ("a" : Str) = S [97] := by decide +kernel
theorem l70b_98 : ("b" : Str) = S [98] := by decide +kernel
theorem l70b_99 : ("c" : Str) = S [99] := by decide +kernel
theorem l70b_111_110 : ("on" : Str) = S [111, 110] := by decide +kernel
theorem l70b_111_102_102 : ("off" : Str) = S [111, 102, 102] := by decide +kernel
theorem l70b_115_48 : ("s0" : Str) = S [115, 48] := by decide +kernel
theorem l70b_122_57 : ("z9" : Str) = S [122, 57] := by decide +kernel
theorem l70b_121 : ("y" : Str) = S [121] := by decide +kernel
theorem l70b_108_111_110_103_110_97_109_101 : ("longname" : Str) = S [108, 111, 110, 103, 110, 97, 109, 101] := by decide +kernel
theorem l70b_115_49 : ("s1" : Str) = S [115, 49] := by decide +kernel
theorem l70b_115_50 : ("s2" : Str) = S [115, 50] := by decide +kernel
local macro_rules | `(tactic| walk_at "lit") => `(tactic| first | exact l70b_114 | exact l70b_97 | exact l70b_98 | exact l70b_99 | exact l70b_111_110 | exact l70b_111_102_102 | exact l70b_115_48 | exact l70b_122_57 | exact l70b_121 | exact l70b_108_111_110_103_110_97_109_101 | exact l70b_115_49 | exact l70b_115_50)
local macro_rules | `(tactic| walk_at "lit") => `(tactic| first | exact lit_abc | exact lit_empty)
local macro_rules | `(tactic| walk_at "nm") => `(tactic| focus first | exact List.not_mem_nil | (simp only [List.mem_singleton]; first | assumption | (exact Ne.symm (by assumption)) | (intro hz; subst hz; simp_all; done)))
local macro_rules | `(tactic| walk_at "hp") => `(tactic| first | assumption | (apply Ex.get0 (by assumption); walk_at "hp") | (apply Ex.get (by assumption); (walk_at "nm"); (walk_at "hp")))
local macro_rules | `(tactic| walk_at "sq") => `(tactic| first | assumption | (apply SqL.of; walk_at "hp") | (apply Ex.sqL (by assumption); (walk_at "nm"); (walk_at "sq")))
local macro_rules | `(tactic| walk_at "sqt") => `(tactic| first | assumption | (apply SqT.of; walk_at "hp") | (apply Ex.sqT (by assumption); (walk_at "nm"); (walk_at "sqt")))
local macro_rules | `(tactic| walk_at "sz") => `(tactic| focus ((with_reducible refine Nat.le_trans (m := 100000) ?_ (by decide)); first | omega | (simp; done) | (simp; omega)))
local macro_rules | `(tactic| walk_at "mul") => `(tactic| first | exact Or.inr ⟨by omega, by omega⟩ | exact Or.inl ⟨by omega, by omega⟩)
local macro_rules | `(tactic| walk_at "pool") => `(tactic| first | assumption | (apply PoolAt.ex (by assumption); (walk_at "nm"); (walk_at "pool")))
local macro_rules | `(tactic| walk_at "ring") => `(tactic| first | assumption | (apply RingAt.ex (by assumption); (walk_at "nm"); (walk_at "ring")))
local macro_rules | `(tactic| walk_at "st") => `(tactic| first
  | with_reducible refine s_seq ?_
  | with_reducible refine s_asg ?_
  | with_reducible refine s_gName ?_
  | with_reducible refine s_ret ?_
  | with_reducible refine s_ifS ?_
  | with_reducible refine s_next ?_
  | with_reducible refine s_op ?_
  | ((with_reducible apply s_var); exact rfl)
  | ((with_reducible apply s_cS); (walk_at "lit"))
  | with_reducible refine s_c ?_
  | with_reducible refine s_cb ?_
  | with_reducible refine s_cons ?_
  | with_reducible refine s_nil ?_
  | with_reducible refine s_un ?_
  | with_reducible refine s_call ?_
  | with_reducible refine s_test ?_
  | with_reducible refine s_tB ?_
  | with_reducible refine s_blQ ?_
  | with_reducible refine s_not ?_
  | with_reducible refine s_and ?_
  | with_reducible refine s_or ?_
  | with_reducible refine s_andV ?_
  | with_reducible refine s_orV ?_
  | with_reducible refine s_notV ?_
  | with_reducible refine s_ifE ?_
  | with_reducible refine s_chain ?_
  | ((with_reducible refine s_T ?_ ?_); (with_reducible exact rfl))
  | with_reducible refine s_nT ?_
  | with_reducible refine s_nF ?_
  | ((with_reducible refine s_F ?_ ?_); (with_reducible exact rfl))
  | ((with_reducible refine s_T ?_ ?_); assumption)
  | ((with_reducible refine s_F ?_ ?_); assumption)
  | ((with_reducible refine s_nB ?_ ?_); assumption)
  | ((with_reducible refine s_nA ?_ ?_); assumption)
  | ((with_reducible refine s_Td ?_ ?_); omega)
  | ((with_reducible refine s_Fd ?_ ?_); omega)
  | ((with_reducible refine s_nTd ?_ ?_); omega)
  | ((with_reducible refine s_nFd ?_ ?_); omega)
  | with_reducible refine s_sfld ?_
  | with_reducible refine s_addI ?_
  | with_reducible refine s_subI ?_
  | ((with_reducible refine s_mulI ?_ ?_); (walk_at "mul"))
  | ((with_reducible refine s_divI ?_ ?_); exact ⟨by omega, by omega⟩)
  | ((with_reducible refine s_modI ?_ ?_); omega)
  | ((with_reducible refine s_powI ?_ ?_); exact ⟨by decide, by decide, by decide⟩)
  | with_reducible refine s_ltI ?_
  | with_reducible refine s_leI ?_
  | with_reducible refine s_gtI ?_
  | with_reducible refine s_geI ?_
  | with_reducible refine s_negI ?_
  | with_reducible refine s_absI ?_
  | with_reducible refine s_intI ?_
  | with_reducible refine s_min2 ?_
  | with_reducible refine s_max2 ?_
  | with_reducible refine s_eqI ?_
  | with_reducible refine s_neI ?_
  | with_reducible refine s_eqS ?_
  | with_reducible refine s_neS ?_
  | with_reducible refine s_inSg ?_
  | with_reducible refine s_notInSg ?_
  | ((with_reducible refine s_addS ?_ ?_); (walk_at "sz"))
  | ((with_reducible refine s_lenS ?_ ?_); (walk_at "sz"))
  | ((with_reducible apply s_lenL); (walk_at "sq"))
  | ((with_reducible apply s_lenT); (walk_at "sqt"))
  | ((with_reducible apply s_ixL); (walk_at "sq"); exact rfl)
  | ((with_reducible apply s_ixT); (walk_at "sqt"); exact rfl)
  | with_reducible refine s_gSub ?_
  | ((with_reducible apply s_setL); (walk_at "hp"); (exact rfl); (intro _ _ _))
  | ((with_reducible refine s_alloc ?_ ?_); (walk_at "sz"); (intro _ _ _ _ _))
  | ((with_reducible refine s_divmod ?_ ?_); (exact ⟨by omega, PyProof.noPylong_small (by omega)⟩); (intro _ _ _ _ _))
  | ((with_reducible apply s_gTup); (walk_at "sqt"); (exact rfl))
  | ((with_reducible apply s_gLst); (walk_at "sq"); (exact rfl))
  | with_reducible refine s_gCons ?_
  | with_reducible refine s_gNil ?_
  | with_reducible refine s_lc ?_
  | ((with_reducible apply s_cat); (walk_at "hp"); (walk_at "hp"); (walk_at "sz"); (intro _ _ _ _ _))
  | ((with_reducible apply s_slL); (walk_at "sq"); (intro _ _ _ _ _))
  | with_reducible refine s_for ?_
  | with_reducible refine s_rng1 ?_
  | ((with_reducible refine s_rng1i ?_ ?_); (constructor <;> omega))
  | with_reducible refine s_rng2 ?_
  | ((with_reducible refine s_rng2i ?_ ?_); (refine ⟨?_, ?_, ?_, ?_⟩ <;> omega))
  | with_reducible refine s_iStr ?_
  | with_reducible refine s_iStrS ?_
  | with_reducible refine s_iList ?_
  | ((with_reducible apply s_iListA); (walk_at "sq"))
  | with_reducible refine s_iTup ?_
  | ((with_reducible apply s_iTupA); (walk_at "sqt"))
  | with_reducible refine s_sl ?_
  | with_reducible refine s_noPart ?_
  | with_reducible refine s_part ?_
  | with_reducible refine s_int1 ?_
  | ((with_reducible refine s_slS ?_ ?_); (walk_at "sz"))
  | with_reducible refine s_tup ?_
  | with_reducible refine s_lst ?_
  | with_reducible refine s_par ?_
  | with_reducible refine s_pair ?_
  | with_reducible refine s_M1 ?_
  | with_reducible refine s_isStr ?_
  | with_reducible refine s_revS ?_
  | ((with_reducible refine s_revS1 ?_ ?_); (walk_at "sz"))
  | with_reducible refine s_fldE ?_
  | with_reducible refine s_propE ?_
  | ((with_reducible refine u_draw ?_ ?_ ?_ ?_); omega; omega; (walk_at "pool"); (intro _ _ _ _ _ _))
  | ((with_reducible refine u_pool ?_); (intro _ _ _ _ _))
  | with_reducible refine u_is_integer ?_
  | with_reducible refine s_isiII ?_
  | with_reducible refine s_isiIB ?_
  | with_reducible refine s_isiSS ?_
  | ((with_reducible apply u_fldRing); assumption; (walk_at "ring"))
  | ((with_reducible apply u_textP); (walk_at "ring"))
  | ((with_reducible apply u_strRing); (walk_at "ring"))
  | ((with_reducible apply u_eqRing); (walk_at "ring"); (walk_at "ring"))
  | ((with_reducible apply u_isiRing); assumption; (walk_at "ring"))
  | ((with_reducible refine u_is_word ?_ ?_); omega; (intro _ _))
  | ((with_reducible refine u_turnings ?_ ?_); omega; (intro _ _ _ _ _))
  | with_reducible refine s_makeE ?_
  | with_reducible refine s_methE ?_)
local macro_rules | `(tactic| walk_at "go") => `(tactic| repeat (walk_at "st"))
local macro_rules | `(tactic| walk_at "exs") => `(tactic| first | exact Ex.rfl | assumption | (apply Ex.snoc (by assumption); walk_at "exs") | (apply Ex.snocW (by assumption); walk_at "exs"))
local macro_rules | `(tactic| walk_at "st") => `(tactic| first
  | ((with_reducible refine u_pick7 ?_ ?_ ?_ ?_); omega; omega; (walk_at "pool"); (intro _ _ _ _ _ _))
  | ((with_reducible refine u_amount7 ?_ ?_); (walk_at "pool"); (intro _ _ _ _ _)))
def t_law_wholeK (K : PySem.W.Frag) : TS :=
  (tRet (tAndV (tCB (rIsi K) (tCons (tVar 0) (tCons (tC (.ty "int")) tNil))) (tNotV (tCB (rIsi K) (tCons (tVar 0) (tCons (tC (.ty "bool")) tNil))))))
def t_law7_wider (K : PySem.W.Frag) : TS :=
  (tRet (tIf (tTest (tOp rEq (tCall (sp_law7_pick K) [] E0 (tCons (tVar 0) (tCons (tC (.int 4)) tNil))) (tC (.int 0)))) (tM1 (rJoin K) (tC (.str "")) (tCB (rSrt K) (tCons (tOp rCat (tCB rListS (tCons (tVar 1) tNil)) (tLst (tCons (tC (.str "r")) tNil))) tNil))) (tVar 1)))
def t_law7_tags (K : PySem.W.Frag) : TS :=
  (tSeq (tAsg (tLst (tCons (tLst (tCons (tC (.str "a")) (tCons (tC (.str "b")) (tCons (tC (.str "c")) tNil)))) (tCons (tLst (tCons (tC (.str "on")) (tCons (tC (.str "off")) (tCons (tC (.str "s0")) tNil)))) (tCons (tLst (tCons (tC (.str "z9")) (tCons (tC (.str "y")) (tCons (tC (.str "longname")) tNil)))) (tCons (tLst (tCons (tC (.str "s1")) (tCons (tC (.str "s0")) (tCons (tC (.str "s2")) tNil)))) tNil))))) (gName 2))
  (tRet (tSl (rSlL K) (tOp (rIxL K) (tVar 2) (tCall (sp_law7_pick K) [] E0 (tCons (tVar 0) (tCons (tC (.int 4)) tNil)))) tNoPart (tPart (tVar 1)))))
def t_law7_lap (K : PySem.W.Frag) : TS :=
  (tRet (tOp (rIxL K) (tLst (tCons (tC (.int 1)) (tCons (tC (.int 1)) (tCons (tC (.int 2)) (tCons (tC (.int 2)) (tCons (tC (.int 3)) (tCons (tC (.int 99)) (tCons (tOp rAddI (tC (.int 1)) (tCall (sp_law7_pick K) [] E0 (tCons (tVar 0) (tCons (tC (.int 99)) tNil)))) tNil)))))))) (tCall (sp_law7_pick K) [] E0 (tCons (tVar 0) (tCons (tC (.int 7)) tNil)))))
def t_law7_near (K : PySem.W.Frag) : TS :=
  (tSeq (tAsg (tOp (rIxL K) (tLst (tCons (tC (.int 1)) (tCons (tC (.int 1)) (tCons (tC (.int 2)) (tCons (tC (.int 6)) tNil))))) (tVar 1)) (gName 2))
  (tRet (tIf (tTest (tOp rLtI (tVar 0) (tOp rAddI (tVar 1) (tVar 2)))) (tVar 0) (tOp rAddI (tVar 1) (tOp rModI (tOp rSubI (tCB rIntI (tCons (tVar 0) tNil)) (tVar 1)) (tVar 2))))))
section
variable {K : PySem.W.Frag} {vs : List V} {H H' : Hp} {Q : VK} {E : XK} {a : Addr}
theorem sq7 {p : Addr} {xs : List V} (e : Ex [] H H') (h : SqT K H p xs) : SqT K H' p xs := e.sqT (by simp) h
theorem pure_law_wholeK (h : sp_law_wholeK K vs H Q E) : t_law_wholeK K (E1 Q) (start ["_law_thing"] vs) H := by
  obtain ⟨v, n, rfl, hk, k⟩ := h
  show t_law_wholeK K (E1 Q) [some v] H
  unfold t_law_wholeK
  walk_at "go"
  have hn := hk.2
  simp only [KD, List.mem_cons, List.not_mem_nil, or_false] at hn
  rcases hn with rfl | rfl | rfl | rfl | rfl | rfl | rfl
  · refine s_isiK hk (b := true) (by decide +kernel) ?_
    walk_at "go"
    refine s_isiK hk (b := false) (by decide +kernel) ?_
    walk_at "go"
    exact k
  · refine s_isiK hk (b := true) (by decide +kernel) ?_
    walk_at "go"
    refine s_isiK hk (b := true) (by decide +kernel) ?_
    walk_at "go"
    exact k
  all_goals
    refine s_isiK hk (b := false) (by decide +kernel) ?_
    walk_at "go"
    exact k
theorem goodS_r {s : List Nat} (h : Sg7 s) : goodS (s ++ [114]) := by
  obtain ⟨⟨h1, h2, h3⟩, h4, h5, h6⟩ := h
  refine ⟨isWord_app h1 (by decide) (by have := isWord_len h1; simp; omega), by simp; omega, List.nodup_append.mpr ⟨h3, by simp, fun x hx y hy z => ?_⟩⟩
  rw [List.mem_singleton.mp hy] at z
  exact h6 (z ▸ hx)
theorem pure_law7_wider (h : sp_law7_wider K vs H Q E) : t_law7_wider K (E1 Q) (start ["_law_purse_here", "_law_signs_here"] vs) H := by
  obtain ⟨a, s, rfl, hp, hs, k⟩ := h
  show t_law7_wider K (E1 Q) [some (.ref a), some (vS s)] H
  unfold t_law7_wider
  walk_at "go"
  rename_i r H1 r0 r1 e1 p1
  refine s_2 (fun hb => ?_) (fun hb => ?_)
  · refine s_M1 (s_cS (l := []) lit_empty (s_isStr (s_cb (s_cons (s_op (s_cb (s_cons (s_var (v := vS s) rfl (s_nil (s_listS (by have := hs.1.2.1; rw [sizeLine_eq]; omega) fun p H2 n2 e2 h2 => ?_))))))))))
    refine s_lst (s_cons (s_cS (l := [114]) (by decide +kernel) (s_nil (s_alloc (by decide) fun p3 H3 n3 e3 h3 => ?_))))
    refine s_cat (e3.get0 h2) h3 (by have := hs.1.2.1; rw [sizeLine_eq]; simp; omega) fun p4 H4 n4 e4 h4 => s_nil ?_
    have e42 : (s.map fun c => vS [c]) ++ [vS [114]] = (((s ++ [114]).map fun c => [c]).map vS) := by simp
    rw [e42] at h4
    refine s_srtL (SqL.of h4) (by have := hs.1.2.1; simp; omega) fun p5 H5 n5 e5 h5 => ?_
    refine s_join0 (SqL.of h5) ?_ ?_
    · rw [flat_len1]; have := hs.1.2.1; simp; omega
    · have g := goodS_r hs
      refine k (sgn (s ++ [114])) H5 (goodS_sgn g) (sgn_idem _) (fun c hc => (sgn_perm _).mem_iff.mpr (List.mem_append_left _ hc)) ?_ ?_
      · exact e1.trans (Ex.wide (e2.trans (e3.trans (e4.trans e5))))
      · exact p1.ex (e2.trans (e3.trans (e4.trans e5))) (by simp)
  · walk_at "go"
    exact k s _ hs.1 hs.2.1 (fun c h => h) e1 p1
def nmB (l : List Nat) : Bool := decide (1 ≤ l.length ∧ l.length ≤ 8) && ((match l with | c :: _ => decide (c ∈ LET) | [] => false) && l.all fun c => decide (c ∈ MRK))
theorem nmB_ok {l : List Nat} (h : nmB l = true) : isName l := by
  unfold nmB at h
  rw [Bool.and_eq_true, Bool.and_eq_true] at h
  obtain ⟨h1, h2, h3⟩ := h
  have h1 := of_decide_eq_true h1
  refine ⟨h1.1, h1.2, ?_, fun c hc => of_decide_eq_true (List.all_eq_true.mp h3 c hc)⟩
  cases l with
  | nil => cases h2
  | cons c r => exact ⟨c, r, rfl, of_decide_eq_true h2⟩
theorem nms_ok {ls : List (List Nat)} (h : ls.all nmB = true) : ∀ l ∈ ls, isName l := fun l hl => nmB_ok (List.all_eq_true.mp h l hl)
theorem free_pool {p : Addr} (hp : PoolAt H' a) (e : Ex [a] H H') (h : H' p = none) : H p = none := by
  cases q : H p with
  | none => rfl
  | some o =>
    by_cases z : p = a
    · subst z
      exact absurd h hp.there
    · rw [e p o (by simpa using z) q] at h
      cases h
theorem tags_ok : ∀ (j : Nat), j < 4 → ∀ n, 1 ≤ n → n ≤ 3 → goodSt ((([[[97], [98], [99]], [[111, 110], [111, 102, 102], [115, 48]], [[122, 57], [121], [108, 111, 110, 103, 110, 97, 109, 101]], [[115, 49], [115, 48], [115, 50]]] : List (List (List Nat))).getD j []).take n) ∧ ((([[[97], [98], [99]], [[111, 110], [111, 102, 102], [115, 48]], [[122, 57], [121], [108, 111, 110, 103, 110, 97, 109, 101]], [[115, 49], [115, 48], [115, 50]]] : List (List (List Nat))).getD j []).take n).length = n := by
  intro j hj n h1 h3
  have hj : j = 0 ∨ j = 1 ∨ j = 2 ∨ j = 3 := by omega
  have hn : n = 1 ∨ n = 2 ∨ n = 3 := by omega
  rcases hj with rfl | rfl | rfl | rfl <;> rcases hn with rfl | rfl | rfl <;> refine ⟨⟨?_, ?_, ?_, nms_ok ?_⟩, ?_⟩ <;> decide
theorem pure_law7_tags (h : sp_law7_tags K vs H Q E) : t_law7_tags K (E1 Q) (start ["_law_purse_here", "_law_size", "_law_some"] vs) H := by
  obtain ⟨a, m, rfl, m1, m3, hp, k⟩ := h
  show t_law7_tags K (E1 Q) [some (.ref a), some (.int m), none] H
  unfold t_law7_tags
  walk_at "go"
  rename_i q1 H1 n1 e1 h1 q2 H2 n2 e2 h2 q3 H3 n3 e3 h3 q4 H4 n4 e4 h4 q5 H5 n5 e5 h5 r H6 r0 r1 e6 p6
  have e05 : Ex [] H H5 := e1.trans (e2.trans (e3.trans (e4.trans e5)))
  have nn : ∀ {q : Addr} {G : Hp}, Ex [] H G → G q = none → q ∉ [a] := fun {q G} e n hm => (hp.ex e (by simp)).there (by rw [← List.mem_singleton.mp hm]; exact n)
  have f1 : H6 q1 = some (.lst ([[97], [98], [99]].map vS)) := e6.get (nn Ex.rfl n1) (e5.get0 (e4.get0 (e3.get0 (e2.get0 h1))))
  have f2 : H6 q2 = some (.lst ([[111, 110], [111, 102, 102], [115, 48]].map vS)) := e6.get (nn e1 n2) (e5.get0 (e4.get0 (e3.get0 h2)))
  have f3 : H6 q3 = some (.lst ([[122, 57], [121], [108, 111, 110, 103, 110, 97, 109, 101]].map vS)) := e6.get (nn (e1.trans e2) n3) (e5.get0 (e4.get0 h3))
  have f4 : H6 q4 = some (.lst ([[115, 49], [115, 48], [115, 50]].map vS)) := e6.get (nn (e1.trans (e2.trans e3)) n4) (e5.get0 h4)
  have f5 := e6.get (nn (e1.trans (e2.trans (e3.trans e4))) n5) h5
  obtain ⟨n, rfl⟩ := Int.eq_ofNat_of_zero_le (show 0 ≤ m by omega)
  have fin : ∀ {q : Addr} {j : Nat}, j < 4 → H6 q = some (.lst ((([[[97], [98], [99]], [[111, 110], [111, 102, 102], [115, 48]], [[122, 57], [121], [108, 111, 110, 103, 110, 97, 109, 101]], [[115, 49], [115, 48], [115, 50]]] : List (List (List Nat))).getD j []).map vS)) →
      rSlL K (.ref q) none (some ((n : Nat) : Int)) H6 Q := fun {q j} hj hq => by
    refine s_slL (SqL.of hq) fun p H7 n7 e7 h7 => ?_
    rw [cutV_to (by omega), Int.toNat_natCast, ← List.map_take] at h7
    have key := tags_ok j hj n (by omega) (by omega)
    exact k _ p H7 key.1 (by rw [key.2]) (e05.free (free_pool p6 e6 n7)) (e05.wide.trans (e6.trans e7.wide)) (p6.ex e7 (by simp)) h7
  have hr : r = 0 ∨ r = 1 ∨ r = 2 ∨ r = 3 := by omega
  rcases hr with rfl | rfl | rfl | rfl
  · exact s_ixL (SqL.of f5) rfl (s_noPart (s_part (s_var rfl (s_int1 (fin (j := 0) (by decide) f1)))))
  · exact s_ixL (SqL.of f5) rfl (s_noPart (s_part (s_var rfl (s_int1 (fin (j := 1) (by decide) f2)))))
  · exact s_ixL (SqL.of f5) rfl (s_noPart (s_part (s_var rfl (s_int1 (fin (j := 2) (by decide) f3)))))
  · exact s_ixL (SqL.of f5) rfl (s_noPart (s_part (s_var rfl (s_int1 (fin (j := 3) (by decide) f4)))))
theorem pure_law7_lap (h : sp_law7_lap K vs H Q E) : t_law7_lap K (E1 Q) (start ["_law_purse_here"] vs) H := by
  obtain ⟨a, rfl, hp, k⟩ := h
  show t_law7_lap K (E1 Q) [some (.ref a)] H
  unfold t_law7_lap
  walk_at "go"
  rename_i r H1 r0 r1 e1 p1 q H2 n2 e2 h2 w H3 w0 w1 e3 p3
  have nq : q ∉ [a] := fun hm => p1.there (by rw [← List.mem_singleton.mp hm]; exact n2)
  have f := e3.get nq h2
  have e03 : Ex [a] H H3 := e1.trans (e2.wide.trans e3)
  have hr : w = 0 ∨ w = 1 ∨ w = 2 ∨ w = 3 ∨ w = 4 ∨ w = 5 ∨ w = 6 := by omega
  rcases hr with rfl | rfl | rfl | rfl | rfl | rfl | rfl <;> exact s_ixL (SqL.of f) rfl (k _ _ e03 p3)
theorem pure_law7_near (h : sp_law7_near K vs H Q E) : t_law7_near K (E1 Q) (start ["_law_lap_here", "_law_size", "_law_period"] vs) H := by
  obtain ⟨i, n, rfl, n1, n3, k⟩ := h
  show t_law7_near K (E1 Q) [some (.int i), some (.int (n : Nat)), none] H
  unfold t_law7_near
  walk_at "go"
  rename_i q H1 nq e1 h1
  have hx : atI [V.int 1, .int 1, .int 2, .int 6] ((n : Nat) : Int) = some (.int (per7 n : Nat)) := by
    rcases (by omega : n = 1 ∨ n = 2 ∨ n = 3) with rfl | rfl | rfl <;> rfl
  have hp : 1 ≤ per7 n := by rcases (by omega : n = 1 ∨ n = 2 ∨ n = 3) with rfl | rfl | rfl <;> decide
  refine s_ixL (SqL.of h1) hx ?_
  walk_at "go"
  refine s_2 (fun hb => ?_) (fun hb => ?_)
  · have hb := of_decide_eq_true hb
    walk_at "go"
    have := k H1 e1
    unfold near7 at this
    rw [if_pos hb] at this
    exact this
  · have hb := of_decide_eq_false hb
    walk_at "go"
    have := k H1 e1
    unfold near7 at this
    rw [if_neg hb] at this
    exact this
end
end WB
namespace WB
open PySem PySem.Spec PyProof.Rows L2
theorem l70c_97 : ("a" : Str) = S [97] := by decide +kernel
theorem l70c_66 : ("B" : Str) = S [66] := by decide +kernel
theorem l70c_98 : ("b" : Str) = S [98] := by decide +kernel
local macro_rules | `(tactic| walk_at "lit") => `(tactic| first | exact l70c_97 | exact l70c_66 | exact l70c_98)
local macro_rules | `(tactic| walk_at "lit") => `(tactic| first | exact lit_abc | exact lit_empty)
local macro_rules | `(tactic| walk_at "nm") => `(tactic| focus first | exact List.not_mem_nil | (simp only [List.mem_singleton]; first | assumption | (exact Ne.symm (by assumption)) | (intro hz; subst hz; simp_all; done)))
local macro_rules | `(tactic| walk_at "hp") => `(tactic| first | assumption | (apply Ex.get0 (by assumption); walk_at "hp") | (apply Ex.get (by assumption); (walk_at "nm"); (walk_at "hp")))
local macro_rules | `(tactic| walk_at "sq") => `(tactic| first | assumption | (apply SqL.of; walk_at "hp") | (apply Ex.sqL (by assumption); (walk_at "nm"); (walk_at "sq")))
local macro_rules | `(tactic| walk_at "sqt") => `(tactic| first | assumption | (apply SqT.of; walk_at "hp") | (apply Ex.sqT (by assumption); (walk_at "nm"); (walk_at "sqt")))
local macro_rules | `(tactic| walk_at "sz") => `(tactic| focus ((with_reducible refine Nat.le_trans (m := 100000) ?_ (by decide)); first | omega | (simp; done) | (simp; omega)))
local macro_rules | `(tactic| walk_at "mul") => `(tactic| first | exact Or.inr ⟨by omega, by omega⟩ | exact Or.inl ⟨by omega, by omega⟩)
local macro_rules | `(tactic| walk_at "pool") => `(tactic| first | assumption | (apply PoolAt.ex (by assumption); (walk_at "nm"); (walk_at "pool")))
local macro_rules | `(tactic| walk_at "ring") => `(tactic| first | assumption | (apply RingAt.ex (by assumption); (walk_at "nm"); (walk_at "ring")))
local macro_rules | `(tactic| walk_at "st") => `(tactic| first
  | with_reducible refine s_seq ?_
  | with_reducible refine s_asg ?_
  | with_reducible refine s_gName ?_
  | with_reducible refine s_ret ?_
  | with_reducible refine s_ifS ?_
  | with_reducible refine s_next ?_
  | with_reducible refine s_op ?_
  | ((with_reducible apply s_var); exact rfl)
  | ((with_reducible apply s_cS); (walk_at "lit"))
  | with_reducible refine s_c ?_
  | with_reducible refine s_cb ?_
  | with_reducible refine s_cons ?_
  | with_reducible refine s_nil ?_
  | with_reducible refine s_un ?_
  | with_reducible refine s_call ?_
  | with_reducible refine s_test ?_
  | with_reducible refine s_tB ?_
  | with_reducible refine s_blQ ?_
  | with_reducible refine s_not ?_
  | with_reducible refine s_and ?_
  | with_reducible refine s_or ?_
  | with_reducible refine s_andV ?_
  | with_reducible refine s_orV ?_
  | with_reducible refine s_notV ?_
  | with_reducible refine s_ifE ?_
  | with_reducible refine s_chain ?_
  | ((with_reducible refine s_T ?_ ?_); (with_reducible exact rfl))
  | with_reducible refine s_nT ?_
  | with_reducible refine s_nF ?_
  | ((with_reducible refine s_F ?_ ?_); (with_reducible exact rfl))
  | ((with_reducible refine s_T ?_ ?_); assumption)
  | ((with_reducible refine s_F ?_ ?_); assumption)
  | ((with_reducible refine s_nB ?_ ?_); assumption)
  | ((with_reducible refine s_nA ?_ ?_); assumption)
  | ((with_reducible refine s_Td ?_ ?_); omega)
  | ((with_reducible refine s_Fd ?_ ?_); omega)
  | ((with_reducible refine s_nTd ?_ ?_); omega)
  | ((with_reducible refine s_nFd ?_ ?_); omega)
  | with_reducible refine s_sfld ?_
  | with_reducible refine s_addI ?_
  | with_reducible refine s_subI ?_
  | ((with_reducible refine s_mulI ?_ ?_); (walk_at "mul"))
  | ((with_reducible refine s_divI ?_ ?_); exact ⟨by omega, by omega⟩)
  | ((with_reducible refine s_modI ?_ ?_); omega)
  | ((with_reducible refine s_powI ?_ ?_); exact ⟨by decide, by decide, by decide⟩)
  | with_reducible refine s_ltI ?_
  | with_reducible refine s_leI ?_
  | with_reducible refine s_gtI ?_
  | with_reducible refine s_geI ?_
  | with_reducible refine s_negI ?_
  | with_reducible refine s_absI ?_
  | with_reducible refine s_intI ?_
  | with_reducible refine s_min2 ?_
  | with_reducible refine s_max2 ?_
  | with_reducible refine s_eqI ?_
  | with_reducible refine s_neI ?_
  | with_reducible refine s_eqS ?_
  | with_reducible refine s_neS ?_
  | with_reducible refine s_inSg ?_
  | with_reducible refine s_notInSg ?_
  | ((with_reducible refine s_addS ?_ ?_); (walk_at "sz"))
  | ((with_reducible refine s_lenS ?_ ?_); (walk_at "sz"))
  | ((with_reducible apply s_lenL); (walk_at "sq"))
  | ((with_reducible apply s_lenT); (walk_at "sqt"))
  | ((with_reducible apply s_ixL); (walk_at "sq"); exact rfl)
  | ((with_reducible apply s_ixT); (walk_at "sqt"); exact rfl)
  | with_reducible refine s_gSub ?_
  | ((with_reducible apply s_setL); (walk_at "hp"); (exact rfl); (intro _ _ _))
  | ((with_reducible refine s_alloc ?_ ?_); (walk_at "sz"); (intro _ _ _ _ _))
  | ((with_reducible refine s_divmod ?_ ?_); (exact ⟨by omega, PyProof.noPylong_small (by omega)⟩); (intro _ _ _ _ _))
  | ((with_reducible apply s_gTup); (walk_at "sqt"); (exact rfl))
  | ((with_reducible apply s_gLst); (walk_at "sq"); (exact rfl))
  | with_reducible refine s_gCons ?_
  | with_reducible refine s_gNil ?_
  | with_reducible refine s_lc ?_
  | ((with_reducible apply s_cat); (walk_at "hp"); (walk_at "hp"); (walk_at "sz"); (intro _ _ _ _ _))
  | ((with_reducible apply s_slL); (walk_at "sq"); (intro _ _ _ _ _))
  | with_reducible refine s_for ?_
  | with_reducible refine s_rng1 ?_
  | ((with_reducible refine s_rng1i ?_ ?_); (constructor <;> omega))
  | with_reducible refine s_rng2 ?_
  | ((with_reducible refine s_rng2i ?_ ?_); (refine ⟨?_, ?_, ?_, ?_⟩ <;> omega))
  | with_reducible refine s_iStr ?_
  | with_reducible refine s_iStrS ?_
  | with_reducible refine s_iList ?_
  | ((with_reducible apply s_iListA); (walk_at "sq"))
  | with_reducible refine s_iTup ?_
  | ((with_reducible apply s_iTupA); (walk_at "sqt"))
  | with_reducible refine s_sl ?_
  | with_reducible refine s_noPart ?_
  | with_reducible refine s_part ?_
  | with_reducible refine s_int1 ?_
  | ((with_reducible refine s_slS ?_ ?_); (walk_at "sz"))
  | with_reducible refine s_tup ?_
  | with_reducible refine s_lst ?_
  | with_reducible refine s_par ?_
  | with_reducible refine s_pair ?_
  | with_reducible refine s_M1 ?_
  | with_reducible refine s_isStr ?_
  | with_reducible refine s_revS ?_
  | ((with_reducible refine s_revS1 ?_ ?_); (walk_at "sz"))
  | with_reducible refine s_fldE ?_
  | with_reducible refine s_propE ?_
  | ((with_reducible refine u_draw ?_ ?_ ?_ ?_); omega; omega; (walk_at "pool"); (intro _ _ _ _ _ _))
  | ((with_reducible refine u_pool ?_); (intro _ _ _ _ _))
  | with_reducible refine u_is_integer ?_
  | with_reducible refine s_isiII ?_
  | with_reducible refine s_isiIB ?_
  | with_reducible refine s_isiSS ?_
  | ((with_reducible apply u_fldRing); assumption; (walk_at "ring"))
  | ((with_reducible apply u_textP); (walk_at "ring"))
  | ((with_reducible apply u_strRing); (walk_at "ring"))
  | ((with_reducible apply u_eqRing); (walk_at "ring"); (walk_at "ring"))
  | ((with_reducible apply u_isiRing); assumption; (walk_at "ring"))
  | ((with_reducible refine u_is_word ?_ ?_); omega; (intro _ _))
  | ((with_reducible refine u_turnings ?_ ?_); omega; (intro _ _ _ _ _))
  | with_reducible refine s_makeE ?_
  | with_reducible refine s_methE ?_)
local macro_rules | `(tactic| walk_at "go") => `(tactic| repeat (walk_at "st"))
local macro_rules | `(tactic| walk_at "exs") => `(tactic| first | exact Ex.rfl | assumption | (apply Ex.snoc (by assumption); walk_at "exs") | (apply Ex.snocW (by assumption); walk_at "exs"))
local macro_rules | `(tactic| walk_at "odd") => `(tactic| first | assumption | (apply OddAt.ex (by assumption); (walk_at "odd")))
local macro_rules | `(tactic| walk_at "st") => `(tactic| first
  | with_reducible refine s_inStr ?_
  | with_reducible refine s_pairs1 ?_
  | ((with_reducible refine s_dnew ?_); (intro _ _ _ _ _)))
local macro_rules | `(tactic| walk_at "st") => `(tactic| first
  | ((with_reducible refine u_pick7 ?_ ?_ ?_ ?_); omega; omega; (walk_at "pool"); (intro _ _ _ _ _ _))
  | ((with_reducible refine u_amount7 ?_ ?_); (walk_at "pool"); (intro _ _ _ _ _)))
def t_law7_odd (K : PySem.W.Frag) : TS :=
  (tRet (tOp (rIxL K) (tLst (tCons (tC .non) (tCons (tC (.bl true)) (tCons (tC (.bl false)) (tCons (tC (.str "")) (tCons (tC (.str "a")) (tCons (tTup tNil) (tCons (tLst (tCons (tC (.int 1)) tNil)) (tCons tDNewK (tCons (tC (.int 0)) (tCons (tC (.int 1)) (tCons (tUn rNegI (tC (.int 1))) (tCons (tOp rPowI (tC (.int 10)) (tC (.int 20))) (tCons (tTup (tCons (tC (.str "a")) tNil)) (tCons (tC (.str "B")) tNil))))))))))))))) (tCall (sp_law7_pick K) [] E0 (tCons (tVar 0) (tCons (tC (.int 14)) tNil)))))
def t_law7_bent (K : PySem.W.Frag) (n : Nat) : TS :=
  (tSeq (tAsg (tCall (sp_law7_pick K) [] E0 (tCons (tVar 0) (tCons (tC (.int 9)) tNil))) (gName 2))
  (tSeq (tIfS (tAnd (tB (tCB (rIsi K) (tCons (tVar 1) (tCons (tC (.ty "tuple")) tNil)))) (tAnd (tTest (tOp rGtI (tCB (rLenV K) (tCons (tVar 1) tNil)) (tC (.int 0)))) (tTest (tOp rGtI (tVar 2) (tC (.int 0)))))) (tSeq (tAsg (tCall (sp_law7_pick K) [] E0 (tCons (tVar 0) (tCons (tCB (rLenV K) (tCons (tVar 1) tNil)) tNil))) (gName 3))
  (tSeq (tIfS (tAnd (tTest (tOp rEq (tVar 2) (tC (.int 3)))) (tTest (tOp rEq (tVar 3) (tC (.int 0))))) (tRet (tCB (rListOf K) (tCons (tVar 1) tNil))) tNext)
  (tSeq (tIfS (tTest (tOp rEq (tVar 2) (tC (.int 1)))) (tRet (tOp (rCatA K) (tSl (rSlA K) (tVar 1) tNoPart (tPart (tVar 3))) (tSl (rSlA K) (tVar 1) (tPart (tOp rAddI (tVar 3) (tC (.int 1)))) tNoPart))) tNext)
  (tSeq (tIfS (tTest (tOp rEq (tVar 2) (tC (.int 2)))) (tRet (tOp (rCatA K) (tOp (rCatA K) (tSl (rSlA K) (tVar 1) tNoPart (tPart (tVar 3))) (tTup (tCons (tOp (rIxT K) (tVar 1) (tVar 3)) tNil))) (tSl (rSlA K) (tVar 1) (tPart (tVar 3)) tNoPart))) tNext)
  (tRet (tOp (rCatA K) (tOp (rCatA K) (tSl (rSlA K) (tVar 1) tNoPart (tPart (tVar 3))) (tTup (tCons (tCall (sp_law7_bent K n) [] E0 (tCons (tVar 0) (tCons (tOp (rIxT K) (tVar 1) (tVar 3)) tNil))) tNil))) (tSl (rSlA K) (tVar 1) (tPart (tOp rAddI (tVar 3) (tC (.int 1)))) tNoPart))))))) tNext)
  (tSeq (tIfS (tAnd (tB (tCall (sp_law_wholeK K) [] E0 (tCons (tVar 1) tNil))) (tTest (tOp rGtI (tVar 2) (tC (.int 1))))) (tRet (tOp rAddI (tVar 1) (tOp (rIxL K) (tLst (tCons (tC (.int 1)) (tCons (tOp rSubI (tC (.int 0)) (tC (.int 1))) (tCons (tC (.int 2)) (tCons (tOp rSubI (tC (.int 0)) (tC (.int 2))) (tCons (tC (.int 1)) (tCons (tOp rSubI (tC (.int 0)) (tC (.int 1))) (tCons (tC (.int 50)) tNil)))))))) (tOp rSubI (tVar 2) (tC (.int 2)))))) tNext)
  (tSeq (tIfS (tAnd (tB (tCB (rIsi K) (tCons (tVar 1) (tCons (tC (.ty "str")) tNil)))) (tTest (tOp rGtI (tVar 2) (tC (.int 2))))) (tRet (tOp (rIxL K) (tLst (tCons (tOp rAddS (tVar 1) (tC (.str "a"))) (tCons (tSl rSlS (tVar 1) tNoPart (tPart (tUn rNegI (tC (.int 1))))) (tCons (tOp rAddS (tSl rSlS (tVar 1) (tPart (tC (.int 1))) tNoPart) (tSl rSlS (tVar 1) tNoPart (tPart (tC (.int 1))))) (tCons (tOp rMulS (tVar 1) (tC (.int 2))) (tCons (tOp rAddS (tC (.str "b")) (tVar 1)) (tCons (tRevS (tVar 1)) tNil))))))) (tOp rSubI (tVar 2) (tC (.int 3))))) tNext)
  (tRet (tCall (sp_law7_odd K) [] E0 (tCons (tVar 0) tNil)))))))
section
variable {K : PySem.W.Frag} {vs : List V} {H H' : Hp} {Q : VK} {E : XK} {a : Addr} {v : V} {m : List Addr}
theorem cut_le7 {l : List Nat} {lo hi : Option Int} : (cut l lo hi).length ≤ l.length := by
  unfold cut
  rw [List.length_take, List.length_drop]
  omega
theorem sq_tup {p : Addr} {xs : List V} (h : H p = some (.tup xs)) (n : p ∉ m) : ∀ H', Ex m H H' → SqT K H' p xs := fun H' e => SqT.of (e.get n h)
theorem sq_any {p : Addr} {xs : List V} (hp : PoolAt H a) (h : SqT K H p xs) : ∀ H', Ex [a] H H' → SqT K H' p xs := fun H' e => sqT_pool hp e h
theorem kd_lst {p : Addr} {xs : List V} (h : H p = some (.lst xs)) (n : p ∉ m) : ∀ H', Ex m H H' → Kd K H' (.ref p) "list" := fun H' e => Kd.lst (e.get n h)
theorem Rs7.el (h : Rs7 K m H v) : El7 K m H v := by
  cases h with
  | tup p xs h1 h2 h3 => exact .oth _ "tuple" (by decide) (by decide) fun H' e => Kd.tup (h1 H' e)
  | str l h1 h2 => exact .str l h1 h2
  | int i => exact .int i
  | oth v n h1 h2 h4 h3 => exact .oth v n h1 h2 h3
theorem In7.el (h : In7 v) : El7 K m H v := by
  cases h with
  | str l h1 h2 h3 => exact .str l (by omega) h3
  | int i => exact .int i
theorem s_listOfT7 {b : Addr} {xs : List V} (h : SqT K H b xs) (k : ∀ q H2, H q = none → Ex [] H H2 → H2 q = some (.lst xs) → Q (.ref q) H2) : rListOf K [.ref b] H Q := ⟨b, xs, rfl, .inr h, s_new k⟩
theorem plain_one {c : Nat} (h : c < 128) : plain [c] := fun x hx => by
  rw [List.mem_singleton.mp hx]
  omega
theorem pure_law7_odd (h : sp_law7_odd K vs H Q E) : t_law7_odd K (E1 Q) (start ["_law_purse_here"] vs) H := by
  obtain ⟨a, rfl, hp, k⟩ := h
  show t_law7_odd K (E1 Q) [some (.ref a)] H
  unfold t_law7_odd
  walk_at "go"
  rename_i q1 H1 n1 e1 h1 q2 H2 n2 e2 h2 q3 H3 n3 e3 h3 q4 H4 n4 e4 h4 q5 H5 n5 e5 h5 r H6 r0 r1 e6 p6
  have e02 := e1.trans e2
  have e03 := e02.trans e3
  have e04 := e03.trans e4
  have e05 := e04.trans e5
  have nn : ∀ {q : Addr} {G : Hp}, Ex [] H G → G q = none → q ∉ [a] := fun {q G} e n hm => (hp.ex e (by simp)).there (by rw [← List.mem_singleton.mp hm]; exact n)
  have f1 := e6.get (nn Ex.rfl n1) (e5.get0 (e4.get0 (e3.get0 (e2.get0 h1))))
  have f2 := e6.get (nn e1 n2) (e5.get0 (e4.get0 (e3.get0 h2)))
  have f3 := e6.get (nn e02 n3) (e5.get0 (e4.get0 h3))
  have f4 := e6.get (nn e03 n4) (e5.get0 h4)
  have f5 := e6.get (nn e04 n5) h5
  have e06 : Ex [a] H H6 := e05.wide.trans e6
  have pa : plain [97] := plain_one (by decide)
  have hr : r = 0 ∨ r = 1 ∨ r = 2 ∨ r = 3 ∨ r = 4 ∨ r = 5 ∨ r = 6 ∨ r = 7 ∨ r = 8 ∨ r = 9 ∨ r = 10 ∨ r = 11 ∨ r = 12 ∨ r = 13 := by omega
  rcases hr with rfl | rfl | rfl | rfl | rfl | rfl | rfl | rfl | rfl | rfl | rfl | rfl | rfl | rfl
  · exact s_ixL (SqL.of f5) rfl (k _ _ e06 p6 (.oth _ "NoneType" (by decide) (by decide) (by decide) fun _ _ => .non))
  · exact s_ixL (SqL.of f5) rfl (k _ _ e06 p6 (.oth _ "bool" (by decide) (by decide) (by decide) fun _ _ => .bl))
  · exact s_ixL (SqL.of f5) rfl (k _ _ e06 p6 (.oth _ "bool" (by decide) (by decide) (by decide) fun _ _ => .bl))
  · exact s_ixL (SqL.of f5) rfl (k _ _ e06 p6 (.str [] (by decide) fun c hc => by cases hc))
  · exact s_ixL (SqL.of f5) rfl (k _ _ e06 p6 (.str [97] (by decide) pa))
  · exact s_ixL (SqL.of f5) rfl (k _ _ e06 p6 (.tup q1 [] (sq_tup f1 (nn Ex.rfl n1)) (by decide) fun x hx => by cases hx))
  · exact s_ixL (SqL.of f5) rfl (k _ _ e06 p6 (.oth _ "list" (by decide) (by decide) (by decide) (kd_lst f2 (nn e1 n2))))
  · exact s_ixL (SqL.of f5) rfl (k _ _ e06 p6 (.oth _ "dict" (by decide) (by decide) (by decide) fun H' e => Kd.dict (e.get (nn e02 n3) f3)))
  · exact s_ixL (SqL.of f5) rfl (k _ _ e06 p6 (.int _))
  · exact s_ixL (SqL.of f5) rfl (k _ _ e06 p6 (.int _))
  · exact s_ixL (SqL.of f5) rfl (k _ _ e06 p6 (.int _))
  · exact s_ixL (SqL.of f5) rfl (k _ _ e06 p6 (.int _))
  · exact s_ixL (SqL.of f5) rfl (k _ _ e06 p6 (.tup q4 [vS [97]] (sq_tup f4 (nn e03 n4)) (by decide) fun x hx => by rw [List.mem_singleton.mp hx]; exact .str [97] (by decide) pa))
  · exact s_ixL (SqL.of f5) rfl (k _ _ e06 p6 (.str [66] (by decide) (plain_one (by decide))))
theorem u_bent7 {n : Nat} (hp : PoolAt H a) (h : In7 v) (k : ∀ (y : V) (H' : Hp), Ex [a] H H' → PoolAt H' a → El7 K [a] H' y → Q y H') : sp_law7_bent K (n + 1) ([.ref a, v] ++ []) H Q E := ⟨a, v, rfl, hp, .inl ⟨h, k⟩⟩
theorem u_bentT {n : Nat} {p : Addr} {xs : List V} (hp : PoolAt H a) (hx : H p = some (.tup xs)) (na : p ≠ a) (h1 : 1 ≤ xs.length) (h3 : xs.length ≤ 3) (hi : ∀ x ∈ xs, In7 x) (k : ∀ (y : V) (H' : Hp), Ex [a] H H' → PoolAt H' a → Rs7 K [a] H' y → Q y H') : sp_law7_bent K (n + 2) ([.ref a, .ref p] ++ []) H Q E := ⟨a, .ref p, rfl, hp, .inr ⟨by omega, p, xs, rfl, hx, na, h1, h3, hi, k⟩⟩
theorem pure_law7_bent {n : Nat} (h : sp_law7_bent K (n + 1) vs H Q E) : t_law7_bent K n (E1 Q) (start ["_law_purse_here", "_law_thing", "_law_way", "_law_at"] vs) H := by
  obtain ⟨a, v, rfl, hp, h⟩ := h
  show t_law7_bent K n (E1 Q) [some (.ref a), some v, none, none] H
  unfold t_law7_bent
  refine s_seq (s_asg (s_call (s_cons (s_var (v := .ref a) rfl (s_cons (s_c (s_nil ?_)))))))
  refine u_pick7 (by decide) (by decide) hp fun w H1 w0 w1 e1 p1 => s_gName ?_
  show tSeq _ _ _ [some (.ref a), some v, some (.int w), none] _
  rcases h with ⟨hi, k⟩ | ⟨n1, p, xs, rfl, hx, na, l1, l3, hi, k⟩
  · have od : ∀ {G : Hp}, Ex [] H1 G → tRet (tCall (sp_law7_odd K) [] E0 (tCons (tVar 0) tNil)) (E1 Q) [some (.ref a), some v, some (.int w), none] G := fun {G} e =>
      s_ret (s_call (s_cons (s_var rfl (s_nil (u_odd7 (p1.ex e (by simp)) fun y G2 e2 p2 hy => k y G2 (e1.trans (e.wide.trans e2)) p2 hy.el)))))
    have fin : ∀ {y : V} {G : Hp}, Ex [] H1 G → (∀ G', El7 K [a] G' y) → Q y G := fun {y G} e hy => k y G (e1.trans e.wide) (p1.ex e (by simp)) (hy G)
    cases hi with
    | int i =>
      refine s_seq (s_ifS (s_and (s_tB (s_cb (s_cons (s_var (v := .int i) rfl (s_cons (s_c (s_nil (s_isiK Kd.int (b := false) (by decide +kernel) (s_blQ (s_F rfl (s_F rfl (s_next ?_))))))))))))))
      refine s_seq (s_ifS (s_and (s_tB (s_call (s_cons (s_var (v := .int i) rfl (s_nil (u_whole7 Kd.int (s_blQ (s_T (by decide) (s_test (s_op (s_var (v := .int w) rfl (s_c (s_gtI (s_blQ ?_))))))))))))))))
      refine s_2 (fun hb => ?_) (fun hb => ?_)
      · have hb := of_decide_eq_true hb
        refine s_ret (s_op (s_var (v := .int i) rfl (s_op (s_lst (s_cons (s_c (s_cons (s_op (s_c (s_c (s_subI (s_cons (s_c (s_cons (s_op (s_c (s_c (s_subI (s_cons (s_c (s_cons (s_op (s_c (s_c (s_subI (s_cons (s_c (s_nil (s_alloc (by decide) fun q G nq e hq => ?_)))))))))))))))))))))))))))))
        refine s_op (s_var (v := .int w) rfl (s_c (s_subI ?_)))
        have hw : w = 2 ∨ w = 3 ∨ w = 4 ∨ w = 5 ∨ w = 6 ∨ w = 7 ∨ w = 8 := by omega
        rcases hw with rfl | rfl | rfl | rfl | rfl | rfl | rfl <;> exact s_ixL (SqL.of hq) rfl (s_addI (fin e fun _ => .int _))
      · refine s_next (s_seq (s_ifS (s_and (s_tB (s_cb (s_cons (s_var (v := .int i) rfl (s_cons (s_c (s_nil (s_isiK Kd.int (b := false) (by decide +kernel) (s_blQ (s_F rfl (s_F rfl (s_next ?_)))))))))))))))
        exact od Ex.rfl
    | str l h1 h2 h3 =>
      refine s_seq (s_ifS (s_and (s_tB (s_cb (s_cons (s_var (v := vS l) rfl (s_cons (s_c (s_nil (s_isiK Kd.str (b := false) (by decide +kernel) (s_blQ (s_F rfl (s_F rfl (s_next ?_))))))))))))))
      refine s_seq (s_ifS (s_and (s_tB (s_call (s_cons (s_var (v := vS l) rfl (s_nil (u_whole7 Kd.str (s_blQ (s_F (by decide) (s_F rfl (s_next ?_))))))))))))
      refine s_seq (s_ifS (s_and (s_tB (s_cb (s_cons (s_var (v := vS l) rfl (s_cons (s_c (s_nil (s_isiK Kd.str (b := true) (by decide +kernel) (s_blQ (s_T rfl (s_test (s_op (s_var (v := .int w) rfl (s_c (s_gtI (s_blQ ?_))))))))))))))))))
      refine s_2 (fun hb => ?_) (fun hb => ?_)
      · have hb := of_decide_eq_true hb
        have sz : ∀ {n : Nat}, n ≤ 20000 → n ≤ sizeLine := fun {n} h => by rw [sizeLine_eq]; omega
        refine s_ret (s_op (s_lst (s_cons (s_op (s_var (v := vS l) rfl (s_cS (l := [97]) (by decide +kernel) (s_addS (sz (by simp; omega)) ?_)))))))
        refine s_cons (s_sl (s_var (v := vS l) rfl (s_noPart (s_part (s_un (s_c (s_negI (s_int1 (s_slS (sz (by omega)) ?_)))))))))
        refine s_cons (s_op (s_sl (s_var (v := vS l) rfl (s_part (s_c (s_int1 (s_noPart (s_slS (sz (by omega)) ?_))))))))
        refine s_sl (s_var (v := vS l) rfl (s_noPart (s_part (s_c (s_int1 (s_slS (sz (by omega)) (s_addS (sz (by have h := cut_le7 (l := l) (lo := some 1) (hi := none); have h' := cut_le7 (l := l) (lo := none) (hi := some 1); omega)) ?_)))))))
        refine s_cons (s_op (s_var (v := vS l) rfl (s_c (s_mulS (by decide) (by decide) (by show l.length * 2 ≤ 100000; omega) ?_))))
        refine s_cons (s_op (s_cS (l := [98]) (by decide +kernel) (s_var (v := vS l) rfl (s_addS (sz (by simp; omega)) ?_))))
        refine s_cons (s_revS (s_var (v := vS l) rfl (s_revS1 (sz (by omega)) (s_nil (s_alloc (by rw [sizeLine_eq]; simp) fun q G nq e hq => ?_)))))
        refine s_op (s_var (v := .int w) rfl (s_c (s_subI ?_)))
        have pl1 : plain (l ++ [97]) := plain_app h3 (plain_one (by decide))
        have pl5 : plain ([98] ++ l) := plain_app (plain_one (by decide)) h3
        have pl4 : plain (rep (2 : Int).toNat l) := fun c hc => by
          have e2 : rep (2 : Int).toNat l = l ++ l := by
            show rep 2 l = _
            rw [rep_succ, rep_one]
          rw [e2] at hc
          exact plain_app h3 h3 c hc
        have l4 : (rep (2 : Int).toNat l).length ≤ 10000 := by
          rw [rep_length]
          show 2 * l.length ≤ 10000
          omega
        have hw : w = 3 ∨ w = 4 ∨ w = 5 ∨ w = 6 ∨ w = 7 ∨ w = 8 := by omega
        rcases hw with rfl | rfl | rfl | rfl | rfl | rfl
        · exact s_ixL (SqL.of hq) rfl (fin e fun _ => .str _ (by simp; omega) pl1)
        · exact s_ixL (SqL.of hq) rfl (fin e fun _ => .str _ (Nat.le_trans cut_le7 (by omega)) (plain_cut h3))
        · exact s_ixL (SqL.of hq) rfl (fin e fun _ => .str _ (by rw [List.length_append]; have h := cut_le7 (l := l) (lo := some 1) (hi := none); have h' := cut_le7 (l := l) (lo := none) (hi := some 1); omega) (plain_app (plain_cut h3) (plain_cut h3)))
        · exact s_ixL (SqL.of hq) rfl (fin e fun _ => .str _ l4 pl4)
        · exact s_ixL (SqL.of hq) rfl (fin e fun _ => .str _ (by simp; omega) pl5)
        · exact s_ixL (SqL.of hq) rfl (fin e fun _ => .str _ (by rw [List.length_reverse]; omega) fun c hc => h3 c (List.mem_reverse.mp hc))
      · exact s_next (od Ex.rfl)
  · have od : ∀ {G : Hp}, Ex [] H1 G → tRet (tCall (sp_law7_odd K) [] E0 (tCons (tVar 0) tNil)) (E1 Q) [some (.ref a), some (.ref p), some (.int w), none] G := fun {G} e =>
      s_ret (s_call (s_cons (s_var rfl (s_nil (u_odd7 (p1.ex e (by simp)) fun y G2 e2 p2 hy => k y G2 (e1.trans (e.wide.trans e2)) p2 hy)))))
    have hx1 : H1 p = some (.tup xs) := e1.get (by simpa using na) hx
    have kd1 : Kd K H1 (.ref p) "tuple" := Kd.tup (SqT.of hx1)
    have lp : ((xs.length : Nat) : Int) > 0 := by omega
    refine s_seq (s_ifS (s_and (s_tB (s_cb (s_cons (s_var (v := .ref p) rfl (s_cons (s_c (s_nil (s_isiK kd1 (b := true) (by decide +kernel) (s_blQ (s_T rfl (s_and (s_test (s_op (s_cb (s_cons (s_var (v := .ref p) rfl (s_nil (s_lenT (SqT.of hx1) (s_c (s_gtI (s_blQ (s_Td lp (s_test (s_op (s_var (v := .int w) rfl (s_c (s_gtI (s_blQ ?_))))))))))))))))))))))))))))))
    refine s_2 (fun hb => ?_) (fun hb => ?_)
    · have hb := of_decide_eq_true hb
      refine s_seq (s_asg (s_call (s_cons (s_var (v := .ref a) rfl (s_cons (s_cb (s_cons (s_var (v := .ref p) rfl (s_nil (s_lenT (SqT.of hx1) (s_nil ?_)))))))))))
      refine u_pick7 (by omega) (by omega) p1 fun z H2 z0 z1 e2 p2 => s_gName ?_
      show tSeq _ _ _ [some (.ref a), some (.ref p), some (.int w), some (.int z)] _
      have hx2 : H2 p = some (.tup xs) := e2.get (by simpa using na) hx1
      have hq2 : SqT K H2 p xs := SqT.of hx2
      have e02 := e1.trans e2
      obtain ⟨j, rfl⟩ := Int.eq_ofNat_of_zero_le z0
      have hj : j < xs.length := by omega
      have fin : ∀ {y : Addr} {ys : List V} {G : Hp}, Ex [a] H2 G → PoolAt G a → SqT K G y ys → ys.length ≤ 10 → (∀ x ∈ ys, El7 K [a] G x) → Q (.ref y) G := fun {y ys G} e pg h1 h2 h3 => k _ _ (e02.trans e) pg (.tup y ys (sq_any pg h1) h2 h3)
      have el : ∀ {x : V} {G : Hp}, x ∈ xs → El7 K [a] G x := fun {x G} h => (hi x h).el
      refine s_seq (s_ifS (s_and (s_test (s_op (s_var (v := .int w) rfl (s_c (s_eqI (s_blQ ?_))))))))
      have rest : tSeq (tIfS (tTest (tOp rEq (tVar 2) (tC (.int 1)))) (tRet (tOp (rCatA K) (tSl (rSlA K) (tVar 1) tNoPart (tPart (tVar 3))) (tSl (rSlA K) (tVar 1) (tPart (tOp rAddI (tVar 3) (tC (.int 1)))) tNoPart))) tNext)
          (tSeq (tIfS (tTest (tOp rEq (tVar 2) (tC (.int 2)))) (tRet (tOp (rCatA K) (tOp (rCatA K) (tSl (rSlA K) (tVar 1) tNoPart (tPart (tVar 3))) (tTup (tCons (tOp (rIxT K) (tVar 1) (tVar 3)) tNil))) (tSl (rSlA K) (tVar 1) (tPart (tVar 3)) tNoPart))) tNext)
          (tRet (tOp (rCatA K) (tOp (rCatA K) (tSl (rSlA K) (tVar 1) tNoPart (tPart (tVar 3))) (tTup (tCons (tCall (sp_law7_bent K n) [] E0 (tCons (tVar 0) (tCons (tOp (rIxT K) (tVar 1) (tVar 3)) tNil))) tNil))) (tSl (rSlA K) (tVar 1) (tPart (tOp rAddI (tVar 3) (tC (.int 1)))) tNoPart))))
          (E1 Q) [some (.ref a), some (.ref p), some (.int w), some (.int (j : Nat))] H2 := by
        refine s_seq (s_ifS (s_test (s_op (s_var (v := .int w) rfl (s_c (s_eqI (s_blQ ?_)))))))
        by_cases c1 : w = 1
        · refine s_Td c1 (s_ret (s_op (s_sl (s_var (v := .ref p) rfl (s_noPart (s_part (s_var (v := .int (j : Nat)) rfl (s_int1 (s_slA hq2 fun y1 G1 f1 g1 => ?_)))))))))
          rw [cutV_to (by omega), Int.toNat_natCast] at g1
          refine s_sl (s_var (v := .ref p) rfl (s_part (s_op (s_var (v := .int (j : Nat)) rfl (s_c (s_addI (s_int1 (s_noPart (s_slA (sq7 f1 hq2) fun y2 G2 f2 g2 => ?_)))))))))
          rw [cutV_from (by omega)] at g2
          refine s_catB (sq7 f2 g1) g2 (by simp only [List.length_take, List.length_drop]; omega) fun y3 G3 f3 g3 => ?_
          refine fin (Ex.wide (f1.trans (f2.trans f3))) (p2.ex (f1.trans (f2.trans f3)) (by simp)) g3 (by simp only [List.length_append, List.length_take, List.length_drop]; omega) fun x h => ?_
          rcases List.mem_append.mp h with h | h
          · exact el (List.mem_of_mem_take h)
          · exact el (List.mem_of_mem_drop h)
        refine s_Fd c1 (s_next (s_seq (s_ifS (s_test (s_op (s_var (v := .int w) rfl (s_c (s_eqI (s_blQ ?_)))))))))
        have hjx : atI xs ((j : Nat) : Int) = some xs[j] := atI_of (by omega) (by rw [Int.toNat_natCast]; exact List.getElem?_eq_getElem hj)
        by_cases c2 : w = 2
        · refine s_Td c2 (s_ret (s_op (s_op (s_sl (s_var (v := .ref p) rfl (s_noPart (s_part (s_var (v := .int (j : Nat)) rfl (s_int1 (s_slA hq2 fun y1 G1 f1 g1 => ?_))))))))))
          rw [cutV_to (by omega), Int.toNat_natCast] at g1
          refine s_tup (s_cons (s_op (s_var (v := .ref p) rfl (s_var (v := .int (j : Nat)) rfl (s_ixT (sq7 f1 hq2) hjx (s_nil (s_alloc (by show 1 ≤ sizeLine; decide) fun y2 G2 _ f2 g2 => ?_)))))))
          refine s_catB (sq7 f2 g1) (SqT.of g2) (by simp only [List.length_take, List.length_cons, List.length_nil]; omega) fun y3 G3 f3 g3 => ?_
          have f03 := (f1.trans f2).trans f3
          refine s_sl (s_var (v := .ref p) rfl (s_part (s_var (v := .int (j : Nat)) rfl (s_int1 (s_noPart (s_slA (sq7 f03 hq2) fun y4 G4 f4 g4 => ?_))))))
          rw [cutV_from (by omega), Int.toNat_natCast] at g4
          refine s_catB (sq7 f4 g3) g4 (by simp only [List.length_append, List.length_take, List.length_drop, List.length_cons, List.length_nil]; omega) fun y5 G5 f5 g5 => ?_
          have f05 := (f03.trans f4).trans f5
          refine fin f05.wide (p2.ex f05 (by simp)) g5 (by simp only [List.length_append, List.length_take, List.length_drop, List.length_cons, List.length_nil]; omega) fun x h => ?_
          simp only [List.mem_append, List.mem_singleton] at h
          rcases h with (h | rfl) | h
          · exact el (List.mem_of_mem_take h)
          · exact el (List.getElem_mem hj)
          · exact el (List.mem_of_mem_drop h)
        refine s_Fd c2 (s_next (s_ret (s_op (s_op (s_sl (s_var (v := .ref p) rfl (s_noPart (s_part (s_var (v := .int (j : Nat)) rfl (s_int1 (s_slA hq2 fun y1 G1 f1 g1 => ?_)))))))))))
        rw [cutV_to (by omega), Int.toNat_natCast] at g1
        refine s_tup (s_cons (s_call (s_cons (s_var (v := .ref a) rfl (s_cons (s_op (s_var (v := .ref p) rfl (s_var (v := .int (j : Nat)) rfl (s_ixT (sq7 f1 hq2) hjx (s_nil ?_))))))))))
        obtain ⟨n', rfl⟩ : ∃ n', n = n' + 1 := ⟨n - 1, by omega⟩
        refine u_bent7 (p2.ex f1 (by simp)) (hi _ (List.getElem_mem hj)) fun y G2 f2 p3 hy => s_nil (s_alloc (by show 1 ≤ sizeLine; decide) fun y2 G3 _ f3 g3 => ?_)
        have g1' : SqT K G3 y1 (xs.take j) := sq7 f3 (sqT_pool (p2.ex f1 (by simp)) f2 g1)
        refine s_catB g1' (SqT.of g3) (by simp only [List.length_take, List.length_cons, List.length_nil]; omega) fun y3 G4 f4 g4 => ?_
        have hq4 : SqT K G4 p xs := sq7 (f3.trans f4) (sqT_pool (p2.ex f1 (by simp)) f2 (sq7 f1 hq2))
        refine s_sl (s_var (v := .ref p) rfl (s_part (s_op (s_var (v := .int (j : Nat)) rfl (s_c (s_addI (s_int1 (s_noPart (s_slA hq4 fun y4 G5 f5 g5 => ?_)))))))))
        rw [cutV_from (by omega)] at g5
        refine s_catB (sq7 f5 g4) g5 (by simp only [List.length_append, List.length_take, List.length_drop, List.length_cons, List.length_nil]; omega) fun y5 G6 f6 g6 => ?_
        have f36 := f3.trans (f4.trans (f5.trans f6))
        refine fin (f1.wide.trans (f2.trans f36.wide)) (p3.ex f36 (by simp)) g6 (by simp only [List.length_append, List.length_take, List.length_drop, List.length_cons, List.length_nil]; omega) fun x h => ?_
        simp only [List.mem_append, List.mem_singleton] at h
        rcases h with (h | rfl) | h
        · exact el (List.mem_of_mem_take h)
        · exact hy.ex f36.wide
        · exact el (List.mem_of_mem_drop h)
      by_cases c3 : w = 3
      · refine s_Td c3 (s_test (s_op (s_var (v := .int (j : Nat)) rfl (s_c (s_eqI (s_blQ (s_2 (fun hz => ?_) fun hz => s_next rest)))))))
        refine s_ret (s_cb (s_cons (s_var (v := .ref p) rfl (s_nil (s_listOfT7 hq2 fun q G nq e hq => ?_)))))
        have nqa : q ∉ [a] := fun hm => p2.there (by rw [← List.mem_singleton.mp hm]; exact nq)
        exact k _ _ (e02.trans e.wide) (p2.ex e (by simp)) (.oth _ "list" (by decide) (by decide) (by decide) (kd_lst hq nqa))
      · exact s_Fd c3 (s_F rfl (s_next rest))
    · refine s_next ?_
      refine s_seq (s_ifS (s_and (s_tB (s_call (s_cons (s_var (v := .ref p) rfl (s_nil (u_whole7 kd1 (s_blQ (s_F (by decide) (s_F rfl (s_next ?_))))))))))))
      refine s_seq (s_ifS (s_and (s_tB (s_cb (s_cons (s_var (v := .ref p) rfl (s_cons (s_c (s_nil (s_isiK kd1 (b := false) (by decide +kernel) (s_blQ (s_F rfl (s_F rfl (s_next ?_))))))))))))))
      exact od Ex.rfl
end
end WB
namespace WB
open PySem PySem.Spec PyProof.Rows L2
local macro_rules | `(tactic| walk_at "lit") => `(tactic| first | exact lit_abc | exact lit_empty)
local macro_rules | `(tactic| walk_at "nm") => `(tactic| focus first | exact List.not_mem_nil | (simp only [List.mem_singleton]; first | assumption | (exact Ne.symm (by assumption)) | (intro hz; subst hz; simp_all; done)))
local macro_rules | `(tactic| walk_at "hp") => `(tactic| first | assumption | (apply Ex.get0 (by assumption); walk_at "hp") | (apply Ex.get (by assumption); (walk_at "nm"); (walk_at "hp")))
local macro_rules | `(tactic| walk_at "sq") => `(tactic| first | assumption | (apply SqL.of; walk_at "hp") | (apply Ex.sqL (by assumption); (walk_at "nm"); (walk_at "sq")))
local macro_rules | `(tactic| walk_at "sqt") => `(tactic| first | assumption | (apply SqT.of; walk_at "hp") | (apply Ex.sqT (by assumption); (walk_at "nm"); (walk_at "sqt")))
local macro_rules | `(tactic| walk_at "sz") => `(tactic| focus ((with_reducible refine Nat.le_trans (m := 100000) ?_ (by decide)); first | omega | (simp; done) | (simp; omega)))
local macro_rules | `(tactic| walk_at "mul") => `(tactic| first | exact Or.inr ⟨by omega, by omega⟩ | exact Or.inl ⟨by omega, by omega⟩)
local macro_rules | `(tactic| walk_at "pool") => `(tactic| first | assumption | (apply PoolAt.ex (by assumption); (walk_at "nm"); (walk_at "pool")))
local macro_rules | `(tactic| walk_at "ring") => `(tactic| first | assumption | (apply RingAt.ex (by assumption); (walk_at "nm"); (walk_at "ring")))
local macro_rules | `(tactic| walk_at "st") => `(tactic| first
  | with_reducible refine s_seq ?_
  | with_reducible refine s_asg ?_
  | with_reducible refine s_gName ?_
  | with_reducible refine s_ret ?_
  | with_reducible refine s_ifS ?_
  | with_reducible refine s_next ?_
  | with_reducible refine s_op ?_
  | ((with_reducible apply s_var); exact rfl)
  | ((with_reducible apply s_cS); (walk_at "lit"))
  | with_reducible refine s_c ?_
  | with_reducible refine s_cb ?_
  | with_reducible refine s_cons ?_
  | with_reducible refine s_nil ?_
  | with_reducible refine s_un ?_
  | with_reducible refine s_call ?_
  | with_reducible refine s_test ?_
  | with_reducible refine s_tB ?_
  | with_reducible refine s_blQ ?_
  | with_reducible refine s_not ?_
  | with_reducible refine s_and ?_
  | with_reducible refine s_or ?_
  | with_reducible refine s_andV ?_
  | with_reducible refine s_orV ?_
  | with_reducible refine s_notV ?_
  | with_reducible refine s_ifE ?_
  | with_reducible refine s_chain ?_
  | ((with_reducible refine s_T ?_ ?_); (with_reducible exact rfl))
  | with_reducible refine s_nT ?_
  | with_reducible refine s_nF ?_
  | ((with_reducible refine s_F ?_ ?_); (with_reducible exact rfl))
  | ((with_reducible refine s_T ?_ ?_); assumption)
  | ((with_reducible refine s_F ?_ ?_); assumption)
  | ((with_reducible refine s_nB ?_ ?_); assumption)
  | ((with_reducible refine s_nA ?_ ?_); assumption)
  | ((with_reducible refine s_Td ?_ ?_); omega)
  | ((with_reducible refine s_Fd ?_ ?_); omega)
  | ((with_reducible refine s_nTd ?_ ?_); omega)
  | ((with_reducible refine s_nFd ?_ ?_); omega)
  | with_reducible refine s_sfld ?_
  | with_reducible refine s_addI ?_
  | with_reducible refine s_subI ?_
  | ((with_reducible refine s_mulI ?_ ?_); (walk_at "mul"))
  | ((with_reducible refine s_divI ?_ ?_); exact ⟨by omega, by omega⟩)
  | ((with_reducible refine s_modI ?_ ?_); omega)
  | ((with_reducible refine s_powI ?_ ?_); exact ⟨by decide, by decide, by decide⟩)
  | with_reducible refine s_ltI ?_
  | with_reducible refine s_leI ?_
  | with_reducible refine s_gtI ?_
  | with_reducible refine s_geI ?_
  | with_reducible refine s_negI ?_
  | with_reducible refine s_absI ?_
  | with_reducible refine s_intI ?_
  | with_reducible refine s_min2 ?_
  | with_reducible refine s_max2 ?_
  | with_reducible refine s_eqI ?_
  | with_reducible refine s_neI ?_
  | with_reducible refine s_eqS ?_
  | with_reducible refine s_neS ?_
  | with_reducible refine s_inSg ?_
  | with_reducible refine s_notInSg ?_
  | ((with_reducible refine s_addS ?_ ?_); (walk_at "sz"))
  | ((with_reducible refine s_lenS ?_ ?_); (walk_at "sz"))
  | ((with_reducible apply s_lenL); (walk_at "sq"))
  | ((with_reducible apply s_lenT); (walk_at "sqt"))
  | ((with_reducible apply s_ixL); (walk_at "sq"); exact rfl)
  | ((with_reducible apply s_ixT); (walk_at "sqt"); exact rfl)
  | with_reducible refine s_gSub ?_
  | ((with_reducible apply s_setL); (walk_at "hp"); (exact rfl); (intro _ _ _))
  | ((with_reducible refine s_alloc ?_ ?_); (walk_at "sz"); (intro _ _ _ _ _))
  | ((with_reducible refine s_divmod ?_ ?_); (exact ⟨by omega, PyProof.noPylong_small (by omega)⟩); (intro _ _ _ _ _))
  | ((with_reducible apply s_gTup); (walk_at "sqt"); (exact rfl))
  | ((with_reducible apply s_gLst); (walk_at "sq"); (exact rfl))
  | with_reducible refine s_gCons ?_
  | with_reducible refine s_gNil ?_
  | with_reducible refine s_lc ?_
  | ((with_reducible apply s_cat); (walk_at "hp"); (walk_at "hp"); (walk_at "sz"); (intro _ _ _ _ _))
  | ((with_reducible apply s_slL); (walk_at "sq"); (intro _ _ _ _ _))
  | with_reducible refine s_for ?_
  | with_reducible refine s_rng1 ?_
  | ((with_reducible refine s_rng1i ?_ ?_); (constructor <;> omega))
  | with_reducible refine s_rng2 ?_
  | ((with_reducible refine s_rng2i ?_ ?_); (refine ⟨?_, ?_, ?_, ?_⟩ <;> omega))
  | with_reducible refine s_iStr ?_
  | with_reducible refine s_iStrS ?_
  | with_reducible refine s_iList ?_
  | ((with_reducible apply s_iListA); (walk_at "sq"))
  | with_reducible refine s_iTup ?_
  | ((with_reducible apply s_iTupA); (walk_at "sqt"))
  | with_reducible refine s_sl ?_
  | with_reducible refine s_noPart ?_
  | with_reducible refine s_part ?_
  | with_reducible refine s_int1 ?_
  | ((with_reducible refine s_slS ?_ ?_); (walk_at "sz"))
  | with_reducible refine s_tup ?_
  | with_reducible refine s_lst ?_
  | with_reducible refine s_par ?_
  | with_reducible refine s_pair ?_
  | with_reducible refine s_M1 ?_
  | with_reducible refine s_isStr ?_
  | with_reducible refine s_revS ?_
  | ((with_reducible refine s_revS1 ?_ ?_); (walk_at "sz"))
  | with_reducible refine s_fldE ?_
  | with_reducible refine s_propE ?_
  | ((with_reducible refine u_draw ?_ ?_ ?_ ?_); omega; omega; (walk_at "pool"); (intro _ _ _ _ _ _))
  | ((with_reducible refine u_pool ?_); (intro _ _ _ _ _))
  | with_reducible refine u_is_integer ?_
  | with_reducible refine s_isiII ?_
  | with_reducible refine s_isiIB ?_
  | with_reducible refine s_isiSS ?_
  | ((with_reducible apply u_fldRing); assumption; (walk_at "ring"))
  | ((with_reducible apply u_textP); (walk_at "ring"))
  | ((with_reducible apply u_strRing); (walk_at "ring"))
  | ((with_reducible apply u_eqRing); (walk_at "ring"); (walk_at "ring"))
  | ((with_reducible apply u_isiRing); assumption; (walk_at "ring"))
  | ((with_reducible refine u_is_word ?_ ?_); omega; (intro _ _))
  | ((with_reducible refine u_turnings ?_ ?_); omega; (intro _ _ _ _ _))
  | with_reducible refine s_makeE ?_
  | with_reducible refine s_methE ?_)
local macro_rules | `(tactic| walk_at "go") => `(tactic| repeat (walk_at "st"))
local macro_rules | `(tactic| walk_at "exs") => `(tactic| first | exact Ex.rfl | assumption | (apply Ex.snoc (by assumption); walk_at "exs") | (apply Ex.snocW (by assumption); walk_at "exs"))
local macro_rules | `(tactic| walk_at "odd") => `(tactic| first | assumption | (apply OddAt.ex (by assumption); (walk_at "odd")))
local macro_rules | `(tactic| walk_at "st") => `(tactic| first
  | with_reducible refine s_inStr ?_
  | with_reducible refine s_pairs1 ?_
  | ((with_reducible refine s_dnew ?_); (intro _ _ _ _ _)))
local macro_rules | `(tactic| walk_at "kind") => `(tactic| first | assumption | (apply KindAt.ex0 (by assumption); (walk_at "kind")) | (apply KindAt.exP (by assumption) (by assumption); (walk_at "kind")))
local macro_rules | `(tactic| walk_at "st") => `(tactic| first
  | with_reducible refine s_lenSet ?_
  | with_reducible refine s_drop ?_
  | with_reducible refine s_bm ?_
  | with_reducible refine s_notN ?_
  | with_reducible refine s_isN ?_
  | ((with_reducible apply s_tyL); (walk_at "hp"))
  | with_reducible refine s_enumT ?_
  | ((with_reducible apply s_enumTA); (walk_at "sqt"))
  | with_reducible refine s_lc2 ?_)
local macro_rules | `(tactic| walk_at "st") => `(tactic| first
  | ((with_reducible refine u_pick7 ?_ ?_ ?_ ?_); omega; omega; (walk_at "pool"); (intro _ _ _ _ _ _))
  | ((with_reducible refine u_amount7 ?_ ?_); (walk_at "pool"); (intro _ _ _ _ _)))
def t_law7_is_word (K : PySem.W.Frag) : TS :=
  (tSeq (tIfS (tOr (tNot (tB (tCB (rIsi K) (tCons (tVar 0) (tCons (tC (.ty "str")) tNil))))) (tNot (tTest (tChain rLtI rLtI (tC (.int 0)) (tCB (rLenV K) (tCons (tVar 0) tNil)) (tC (.int 601)))))) (tRet (tC (.bl false))) tNext)
  (tRet (tOp (rEqD K) (tLc (iStr (tVar 0)) (gName 1) (tTest (tOp rNotInSg (tVar 1) (tC (.str "abcdefghijklmnopqrstuvwxyz")))) (tVar 1) [1]) (tLst tNil))))
def t_law7_is_lap (K : PySem.W.Frag) : TS :=
  (tRet (tAndV (tCall (sp_law_wholeK K) [] E0 (tCons (tVar 0) tNil)) (tChain rLtI rLtI (tC (.int 0)) (tVar 0) (tC (.int 100)))))
def t_law7_turns (K : PySem.W.Frag) : TS :=
  (tSeq (tIfS (tOr (tNot (tB (tCB (rIsi K) (tCons (tVar 0) (tCons (tC (.ty "str")) tNil))))) (tOr (tNot (tB (tCB (rIsi K) (tCons (tVar 1) (tCons (tC (.ty "str")) tNil))))) (tTest (tOp rNe (tCB (rLenV K) (tCons (tVar 0) tNil)) (tCB (rLenV K) (tCons (tVar 1) tNil)))))) (tRet (tC (.bl false))) tNext)
  (tRet (tAndV (tOp rNe (tVar 1) (tC (.str ""))) (tOp rInStr (tVar 1) (tOp rAddS (tVar 0) (tVar 0))))))
def t_law7_is_ring (K : PySem.W.Frag) : TS :=
  (tSeq (tIfS (tOr (tNot (tB (tCB (rIsi K) (tCons (tVar 0) (tCons (tC (.ty "str")) tNil))))) (tTest (tOp rEq (tVar 0) (tC (.str ""))))) (tRet (tC (.bl false))) tNext)
  (tRet (tOp (rEqD K) (tLc (iRng1 (tCons (tCB (rLenV K) (tCons (tVar 0) tNil)) tNil)) (gName 2) (tTest (tOp (rIn K true) (tOp rAddS (tOp rIxS (tVar 0) (tOp rSubI (tVar 2) (tC (.int 1)))) (tOp rIxS (tVar 0) (tVar 2))) (tVar 1))) (tVar 2) [2]) (tLst tNil))))
section
variable {K : PySem.W.Frag} {vs : List V} {H H' : Hp} {Q : VK} {E : XK} {a : Addr} {v : V} {m : List Addr}
theorem double_rot7 {w : List Nat} {i : Nat} (h : i ≤ w.length) : ((w ++ w).drop i).take w.length = rot w i := by
  rw [List.drop_append_of_le_length h, List.take_append, List.length_drop]
  unfold rot
  rw [List.take_of_length_le (by simp)]
  congr 2
  omega
theorem due_iff7 {w m : List Nat} (hw : w ≠ []) (hm : m ≠ []) : (decide ((m.length : Int) = (w.length : Int)) && occ m (w ++ w)) = decide (leastT w = leastT m) := by
  rw [Bool.eq_iff_iff, Bool.and_eq_true, decide_eq_true_iff, decide_eq_true_iff]
  unfold occ
  rw [decide_eq_true_iff]
  have hl : 1 ≤ w.length := List.length_pos_iff.mpr hw
  constructor
  · rintro ⟨h1, i, h2, h3⟩
    have h1 : m.length = w.length := by omega
    have hi : i ≤ w.length := by
      have := congrArg List.length h3
      rw [List.length_take, List.length_drop, List.length_append] at this
      omega
    rw [h1, double_rot7 hi] at h3
    rw [← h3]
    rcases Nat.lt_or_ge i w.length with h | h
    · rw [leastT_of_rot h]
    · have : i = w.length := by omega
      rw [this, rot_full]
  · intro h
    have h1 : m.length = w.length := by rw [← leastT_len hm, ← h, leastT_len hw]
    refine ⟨by omega, ?_⟩
    obtain ⟨i, hi, ei⟩ := leastT_rot hw
    obtain ⟨j, hj, ej⟩ := leastT_rot hm
    have hmm : m ∈ rots w := by
      have h4 : m ∈ rots (rot m j) := (rots_rot hj).mpr (mem_rots.mpr ⟨0, by omega, (rot_zero m).symm⟩)
      rw [← ej, ← h, ei] at h4
      exact (rots_rot hi).mp h4
    obtain ⟨k, hk, ek⟩ := mem_rots.mp hmm
    exact ⟨k, by rw [List.length_append]; omega, by rw [h1, double_rot7 (by omega)]; exact ek.symm⟩
theorem filt_word {l s : List Nat} (h : 1 ≤ l.length ∧ l.length ≤ 600) : ((l.filter fun c => !decide (c ∈ s)).map fun c => [c]).isEmpty = isWord l s := by
  unfold isWord
  rw [decide_eq_true h, Bool.true_and, List.isEmpty_map, Bool.eq_iff_iff, List.isEmpty_iff, List.filter_eq_nil_iff, List.all_eq_true]
  constructor
  · intro h c hc
    have := h c hc
    simpa using this
  · intro h c hc
    have := h c hc
    simpa using this
theorem pure_law7_is_word (h : sp_law7_is_word K vs H Q E) : t_law7_is_word K (E1 Q) (start ["_law_thing", "_law_sign"] vs) H := by
  obtain ⟨v, rfl, h⟩ := h
  show t_law7_is_word K (E1 Q) [some v, none] H
  unfold t_law7_is_word
  rcases h with ⟨l, rfl, hl, hpl, k⟩ | ⟨n, hk, hn, k⟩
  rotate_left
  · refine s_seq (s_ifS (s_or (s_not (s_tB (s_cb (s_cons (s_var (v := v) rfl (s_cons (s_c (s_nil (s_isiK hk (b := false) (kitB_str hk.2 hn) (s_blQ (s_T rfl (s_T rfl (s_ret (s_c k))))))))))))))))
  refine s_seq (s_ifS (s_or (s_not (s_tB (s_cb (s_cons (s_var (v := vS l) rfl (s_cons (s_c (s_nil (s_isiK Kd.str (b := true) (by decide +kernel) (s_blQ (s_F rfl ?_)))))))))))))
  refine s_not (s_test (s_chain (s_c (s_cb (s_cons (s_var (v := vS l) rfl (s_nil (s_lenS (by rw [sizeLine_eq]; omega) (s_ltI (s_blQ ?_))))))))))
  refine s_2 (fun hb => ?_) (fun hb => ?_)
  rotate_left
  · have hb := of_decide_eq_false hb
    refine s_blQ (s_T rfl (s_ret (s_c ?_)))
    have e : isWord l LET = false := by
      unfold isWord
      rw [decide_eq_false (by omega)]
      rfl
    rw [← e]
    exact k _ Ex.rfl
  have hb := of_decide_eq_true hb
  refine s_c (s_ltI (s_blQ ?_))
  by_cases hb2 : (l.length : Int) < 601
  rotate_left
  · refine s_T (by rw [decide_eq_false hb2]; rfl) (s_ret (s_c ?_))
    have e : isWord l LET = false := by
      unfold isWord
      rw [decide_eq_false (by omega)]
      rfl
    rw [← e]
    exact k _ Ex.rfl
  refine s_F (by rw [decide_eq_true hb2]; rfl) (s_next (s_ret (s_op (s_lc (s_iStr (s_var (v := vS l) rfl (s_iStrS ?_)))))))
  refine lc_mapS (by omega) (fun c => !decide (c ∈ LET)) (fun c => vS [c]) (fun c H1 C1 C0 hc e1 k1 k0 => ?_) (fun D H1 hD e1 hd => ?_)
  · walk_at "go"
    refine s_2 (fun hb => ?_) (fun hb => ?_)
    · walk_at "go"
      exact k1 _ Ex.rfl hb
    · exact k0 _ Ex.rfl hb
  walk_at "go"
  rename_i p2 H2 n2 e2 h2
  refine s_eqLSnil (ls := (l.filter fun c => !decide (c ∈ LET)).map fun c => [c]) (by rw [List.map_map]; exact SqL.of (e2.get0 hd)) (SqL.of h2) ?_ ?_
  · intro m hm
    obtain ⟨c, hc, rfl⟩ := List.mem_map.mp hm
    intro x hx
    rw [List.mem_singleton.mp hx]
    exact hpl c (List.mem_filter.mp hc).1
  · have e : ((l.filter fun c => !decide (c ∈ LET)).map fun c => [c]).isEmpty = isWord l LET := filt_word ⟨by omega, by omega⟩
    rw [e]
    exact k _ (e1.trans e2)
theorem pure_law7_is_lap (h : sp_law7_is_lap K vs H Q E) : t_law7_is_lap K (E1 Q) (start ["_law_thing"] vs) H := by
  obtain ⟨v, rfl, h⟩ := h
  show t_law7_is_lap K (E1 Q) [some v] H
  unfold t_law7_is_lap
  rcases h with ⟨i, rfl, k⟩ | ⟨n, hk, hn, k⟩
  · refine s_ret (s_andV (s_call (s_cons (s_var (v := .int i) rfl (s_nil (u_whole7 Kd.int (s_blQ (s_T (by decide) (s_chain (s_c (s_var (v := .int i) rfl (s_ltI (s_blQ ?_)))))))))))))
    by_cases h1 : 0 < i
    · refine s_Td h1 (s_c (s_ltI ?_))
      have e : decide (i < 100) = decide (1 ≤ i ∧ i ≤ 99) := by
        by_cases h2 : i < 100
        · rw [decide_eq_true h2, decide_eq_true (by omega)]
        · rw [decide_eq_false h2, decide_eq_false (by omega)]
      rw [e]
      exact k
    · refine s_Fd h1 ?_
      rw [decide_eq_false (by omega)] at k
      exact k
  · exact s_ret (s_andV (s_call (s_cons (s_var (v := v) rfl (s_nil (u_whole7 hk (s_blQ (s_F (decide_eq_false hn) k))))))))
theorem pure_law7_turns (h : sp_law7_turns K vs H Q E) : t_law7_turns K (E1 Q) (start ["_law_one", "_law_other"] vs) H := by
  obtain ⟨u, v, rfl, hu, hv, lu, lv, k⟩ := h
  show t_law7_turns K (E1 Q) [some (vS u), some (vS v)] H
  unfold t_law7_turns
  have due := due_iff7 hu hv
  refine s_seq (s_ifS (s_or (s_not (s_tB (s_cb (s_cons (s_var (v := vS u) rfl (s_cons (s_c (s_nil (s_isiK Kd.str (b := true) (by decide +kernel) (s_blQ (s_F rfl ?_)))))))))))))
  refine s_or (s_not (s_tB (s_cb (s_cons (s_var (v := vS v) rfl (s_cons (s_c (s_nil (s_isiK Kd.str (b := true) (by decide +kernel) (s_blQ (s_F rfl ?_)))))))))))
  refine s_test (s_op (s_cb (s_cons (s_var (v := vS u) rfl (s_nil (s_lenS (by rw [sizeLine_eq]; omega) (s_cb (s_cons (s_var (v := vS v) rfl (s_nil (s_lenS (by rw [sizeLine_eq]; omega) (s_neI (s_blQ ?_)))))))))))))
  by_cases hl : (u.length : Int) = (v.length : Int)
  · refine s_nFd hl (s_next (s_ret (s_andV (s_op (s_var (v := vS v) rfl (s_cS (l := []) lit_empty (s_neS (s_blQ (s_T ?_ ?_)))))))))
    · rw [decide_eq_false hv]; rfl
    rw [decide_eq_true hl.symm, Bool.true_and] at due
    refine s_op (s_var (v := vS v) rfl (s_op (s_var (v := vS u) rfl (s_var (v := vS u) rfl (s_addS (by rw [sizeLine_eq]; omega) (s_inStr ?_))))))
    rw [due]
    exact k
  · refine s_nTd hl (s_ret (s_c ?_))
    rw [decide_eq_false (fun z => hl z.symm), Bool.false_and] at due
    rw [due]
    exact k
theorem pure_law7_is_ring (h : sp_law7_is_ring K vs H Q E) : t_law7_is_ring K (E1 Q) (start ["_law_word", "_law_pairs_here", "_law_at"] vs) H := by
  obtain ⟨w, q, rfl, ps, hw, lw, hq, lp, k⟩ := h
  show t_law7_is_ring K (E1 Q) [some (vS w), some (.ref q), none] H
  unfold t_law7_is_ring
  refine s_seq (s_ifS (s_or (s_not (s_tB (s_cb (s_cons (s_var (v := vS w) rfl (s_cons (s_c (s_nil (s_isiK Kd.str (b := true) (by decide +kernel) (s_blQ (s_F rfl ?_)))))))))))))
  refine s_test (s_op (s_var (v := vS w) rfl (s_cS (l := []) lit_empty (s_eqS (s_blQ (s_Fd hw (s_next ?_)))))))
  refine s_ret (s_op (s_lc (s_rng1 (s_cons (s_cb (s_cons (s_var (v := vS w) rfl (s_nil (s_lenS (by rw [sizeLine_eq]; omega) (s_nil (s_rng1i (by omega) ?_)))))))))))
  refine lc_fmR (by omega) (fun i => !decide ([prevC w i, w.getD i 0] ∈ ps)) (fun i => .int ((0 : Int) + i)) (fun i H1 C1 C0 hi e1 k1 k0 => ?_) (fun D H1 hD e1 hd => ?_)
  · have hi : i < w.length := by omega
    walk_at "go"
    refine s_ixS (c := prevC w i) (by walk_at "sz") (at_prev hi) ?_
    walk_at "go"
    refine s_ixS (c := w.getD i 0) (by walk_at "sz") (at_here hi) ?_
    walk_at "go"
    refine s_notInL (SqL.of (e1.get0 hq)) ?_
    walk_at "go"
    refine s_2 (fun hb => ?_) (fun hb => ?_)
    · walk_at "go"
      exact k1 _ Ex.rfl hb
    · exact k0 _ Ex.rfl hb
  walk_at "go"
  rename_i p2 H2 n2 e2 h2
  refine s_eqLInil (l := ((List.range w.length).filter fun i => !decide ([prevC w i, w.getD i 0] ∈ ps)).map fun (i : Nat) => (0 : Int) + i) (by rw [List.map_map]; exact SqL.of (e2.get0 hd)) (SqL.of h2) ?_
  rw [closes_filter]
  exact k _ (e1.trans e2)
end
end WB
namespace WB
open PySem PySem.Spec PyProof.Rows L2
def t_is_lap (K : PySem.W.Frag) : TS :=
  (tRet (tCall (sp_is_within K) [] E0 (tCons (tVar 0) (tCons (tC (.int 1)) (tCons (tC (.int 99)) tNil)))))
def t_loop_of (K : PySem.W.Frag) : TS :=
  (tRet (ClX.tCMeth (He.ga K "Loop") (fun vs H Q E => sp_Loop_made K (vs ++ []) H Q E) E0 (tC (.ref (He.ga K "Loop"))) (tCons (tVar 0) tNil)))
def t_kind_of (K : PySem.W.Frag) : TS :=
  (tRet (ClX.tCMeth (He.ga K "Kind") (fun vs H Q E => sp_Kind_made K (vs ++ []) H Q E) E0 (tC (.ref (He.ga K "Kind"))) (tCons (tVar 0) tNil)))
def t_shows_differ (K : PySem.W.Frag) : TS :=
  (tSeq (tAsg (tVar 2) (gTup K 3 (gCons (gName 4) (gCons (gName 5) (gCons (gName 6) gNil)))))
  (tSeq (tIfS (tOr (tNot (tB (tCall (sp_is_word K) [(vS LET)] E0 (tCons (tVar 4) tNil)))) (tOr (tNot (tB (tCall (sp_is_word K) [(vS LET)] E0 (tCons (tVar 5) tNil)))) (tOr (tNot (tB (tCall (sp_is_lap K) [] E0 (tCons (tVar 6) tNil)))) (tNot (tB (tCall (sp_is_row K) [] E0 (tCons (tVar 3) (tCons (tC (.int 0)) tNil)))))))) (tRet (tC (.bl false))) tNext)
  (tSeq (tIfS (tOr (tTest (tOp (rInO (He.ga K "Kind") true (sp_Kind_contains K) E0) (tMake (He.ga K "Ring") (sp_Ring_init K) [] E0 (tCons (tVar 4) tNil)) (tVar 1))) (tTest (tOp (rNeA K (He.ga K "Ring") (sp_Ring_eq K) E0) (tMake (He.ga K "Ring") (sp_Ring_init K) [] E0 (tCons (tVar 4) tNil)) (tMake (He.ga K "Ring") (sp_Ring_init K) [] E0 (tCons (tVar 5) tNil))))) (tRet (tC (.bl false))) tNext)
  (tRet (tOp (rNeD K) (tMeth (He.ga K "Loop") "answer" (sp_Loop_answer K) [] E0 (tVar 0) (tCons (tVar 4) (tCons (tVar 6) tNil))) (tMeth (He.ga K "Loop") "answer" (sp_Loop_answer K) [] E0 (tVar 0) (tCons (tVar 5) (tCons (tVar 6) tNil))))))))
section
variable {K : PySem.W.Frag} {w : World} {vs : List V} {H H' : Hp} {Q : VK} {E : XK} {a : Addr} {v : V} {m : List Addr}
theorem pure_is_lap (h : sp_is_lap K vs H Q E) : t_is_lap K (E1 Q) (start ["value"] vs) H := by
  obtain ⟨v, rfl, h⟩ := h
  show t_is_lap K (E1 Q) [some v] H
  unfold t_is_lap
  refine s_ret (s_call (s_cons (s_var (v := v) rfl (s_cons (s_c (s_cons (s_c (s_nil ?_))))))))
  rcases h with ⟨i, rfl, k⟩ | ⟨n, hk, hn, k⟩
  · exact u_within k
  · exact ⟨v, 1, 99, rfl, .inr ⟨n, hk, hn, k⟩⟩
theorem pure_loop_of (h : sp_loop_of K vs H Q E) : t_loop_of K (E1 Q) (start ["value"] vs) H := by
  obtain ⟨q, rfl, M, hq, g, k⟩ := h
  show t_loop_of K (E1 Q) [some (.ref q)] H
  unfold t_loop_of
  exact s_ret (s_cmeth (s_c ⟨rfl, s_cons (s_var (v := .ref q) rfl (s_nil ⟨q, rfl, M, hq, g, k⟩))⟩))
theorem pure_kind_of (h : sp_kind_of K vs H Q E) : t_kind_of K (E1 Q) (start ["value"] vs) H := by
  obtain ⟨q, rfl, l, ps, hq, g, k⟩ := h
  show t_kind_of K (E1 Q) [some (.ref q)] H
  unfold t_kind_of
  exact s_ret (s_cmeth (s_c ⟨rfl, s_cons (s_var (v := .ref q) rfl (s_nil ⟨q, rfl, l, ps, hq, g, fun x H' _ e hk => k x H' e hk⟩))⟩))
theorem El7.kd (h : El7 K [] H v) (n1 : ¬ ∃ l, v = vS l ∧ l.length ≤ 10000 ∧ plain l) : ∃ n, n ≠ "str" ∧ ∀ H', Ex [] H H' → Kd K H' v n := by
  cases h with
  | str l h1 h2 => exact absurd ⟨l, rfl, h1, h2⟩ n1
  | int i => exact ⟨"int", by decide, fun _ _ => Kd.int⟩
  | oth v n h1 h2 h3 => exact ⟨n, h1, h3⟩
theorem El7.kdI (h : El7 K [] H v) (n1 : ¬ ∃ i : Int, v = .int i) : ∃ n, n ≠ "int" ∧ ∀ H', Ex [] H H' → Kd K H' v n := by
  cases h with
  | str l h1 h2 => exact ⟨"str", by decide, fun _ _ => Kd.str⟩
  | int i => exact absurd ⟨i, rfl⟩ n1
  | oth v n h1 h2 h3 => exact ⟨n, h2, h3⟩
theorem eqv_pair7 (i j : Int) (b c : Bool) : PyData.eqv (.tuple [.int i, .bool b]) (.tuple [.int j, .bool c]) = (i == j && b == c) := by simp [PyData.eqv, PyData.eqvAll]
theorem shaped_ib (i : Int) (b : Bool) : SeqAt.shaped (.tuple [.int i, .bool b]) = true := by
  unfold SeqAt.shaped
  refine Bool.and_eq_true_iff.mpr ⟨?_, decide_eq_true ?_⟩
  · simp [PyData.canLay0, PyData.canLayAll0]
  · simp [PyData.depth, PyData.depthAll]
theorem s_neIB7 {p q : Addr} {i j : Int} {b c : Bool} (h1 : SqT K H p [.int i, .bl b]) (h2 : SqT K H q [.int j, .bl c]) (k : Q (.bl (!(i == j && b == c))) H) : rNeD K (.ref p) (.ref q) H Q := by
  refine ⟨_, _, .tup h1 (.cons (.int _) (.cons (.bl _) .nil)), .tup h2 (.cons (.int _) (.cons (.bl _) .nil)), shaped_ib i b, shaped_ib j c, ?_⟩
  rw [eqv_pair7]
  exact k
theorem vS_inj {l m : List Nat} (hl : plain l) (hm : plain m) (h : (vS l : V) = vS m) : l = m := by
  exact S_inj (V.str.inj h)
theorem inAb_of {M : LM} {u : List Nat} {ps : List (List Nat)} (hu : isWord u LET = true) (hp : ∀ q ∈ ps, ∀ c ∈ q, c ∈ M.ab) (hc : closesB u ps = true) : inAb M u := by
  have l := isWord_len hu
  have l1 : 1 ≤ u.length := List.length_pos_iff.mpr (isWord_ne hu)
  refine ⟨l1, l.2, fun c h => ?_⟩
  obtain ⟨i, hi⟩ := List.getElem_of_mem h
  obtain ⟨hi, e⟩ := hi
  have z := (closes_iff.mp hc) i hi
  refine hp _ z c ?_
  have e2 : u.getD i 0 = c := by
    rw [List.getD_eq_getElem?_getD, List.getElem?_eq_getElem hi]
    exact e
  rw [← e2]
  simp
theorem inAb_turn {M : LM} {u v : List Nat} (hu : inAb M u) (hv : v ≠ []) (h : leastT u = leastT v) : inAb M v := by
  have une : u ≠ [] := List.length_pos_iff.mp hu.1
  have el : v.length = u.length := by rw [← leastT_len hv, ← h, leastT_len une]
  refine ⟨by rw [el]; exact hu.1, by rw [el]; exact hu.2.1, fun c hc => ?_⟩
  refine hu.2.2 c ((leastT_mem une).mp ?_)
  rw [h]
  exact (leastT_mem hv).mpr hc
theorem pure_shows_differ (F : RingK K) (h : sp_shows_differ K vs H Q E) : t_shows_differ K (E1 Q) (start ["loop", "kind", "rest", "certificate", "one", "other", "lap"] vs) H := by
  obtain ⟨x, kd, p, c, rfl, M, cs, ps, v1, v2, v3, pe, hx, g, hk, hps, hp, x1, x2, x3, hc, k⟩ := h
  show t_shows_differ K (E1 Q) [some (.ref x), some (.ref kd), some (.ref p), some c, none, none, none] H
  unfold t_shows_differ
  refine s_seq (s_asg (s_var (v := .ref p) rfl (s_gTup hp rfl (s_gCons (s_gName (s_gCons (s_gName (s_gCons (s_gName (s_gNil ?_))))))))))
  show tSeq _ _ _ [some (.ref x), some (.ref kd), some (.ref p), some c, some v1, some v2, some v3] _
  have no : ∀ {G : Hp}, Ex [] H G → ¬ Dif7 M ps [v1, v2, v3] pe → tRet (tC (.bl false)) (E1 Q) [some (.ref x), some (.ref kd), some (.ref p), some c, some v1, some v2, some v3] G := fun {G} e n => s_ret (s_c (k false G e (Iff.intro (fun z => Bool.noConfusion z) fun z => absurd z n)))
  refine s_seq (s_ifS (s_or (s_not (s_tB (s_call (s_cons (s_var (v := v1) rfl (s_nil ?_))))))))
  by_cases c1 : ∃ l, v1 = vS l ∧ l.length ≤ 10000 ∧ plain l
  rotate_left
  · obtain ⟨n, hn, hk1⟩ := x1.kd c1
    refine u_not_word (hk1 H Ex.rfl) hn (s_blQ (s_T rfl (s_T rfl (no Ex.rfl ?_))))
    rintro ⟨_, u, _, _, e, hu, _⟩
    have e1 : v1 = vS u := (List.cons.inj e).1
    exact c1 ⟨u, e1, by have := isWord_len hu; omega, plain_word hu⟩
  obtain ⟨u, rfl, lu, pu⟩ := c1
  refine u_is_word lu fun G1 e1 => s_blQ ?_
  by_cases wu : isWord u LET = true
  rotate_left
  · rw [Bool.eq_false_iff.mpr wu]
    refine s_T rfl (s_T rfl (no e1 ?_))
    rintro ⟨_, u', _, _, e, hu, _⟩
    have := vS_inj pu (plain_word hu) (List.cons.inj e).1
    subst this
    exact wu hu
  rw [wu]
  refine s_F rfl (s_or (s_not (s_tB (s_call (s_cons (s_var (v := v2) rfl (s_nil ?_)))))))
  by_cases c2 : ∃ l, v2 = vS l ∧ l.length ≤ 10000 ∧ plain l
  rotate_left
  · obtain ⟨n, hn, hk1⟩ := x2.kd c2
    refine u_not_word (hk1 G1 e1) hn (s_blQ (s_T rfl (s_T rfl (no e1 ?_))))
    rintro ⟨_, _, u', _, e, _, hu, _⟩
    have e2 : v2 = vS u' := (List.cons.inj (List.cons.inj e).2).1
    exact c2 ⟨u', e2, by have := isWord_len hu; omega, plain_word hu⟩
  obtain ⟨t, rfl, lt, pt⟩ := c2
  refine u_is_word lt fun G2 e2 => s_blQ ?_
  have e02 := e1.trans e2
  by_cases wt : isWord t LET = true
  rotate_left
  · rw [Bool.eq_false_iff.mpr wt]
    refine s_T rfl (s_T rfl (no e02 ?_))
    rintro ⟨_, _, u', _, e, _, hu, _⟩
    have := vS_inj pt (plain_word hu) (List.cons.inj (List.cons.inj e).2).1
    subst this
    exact wt hu
  rw [wt]
  refine s_F rfl (s_or (s_not (s_tB (s_call (s_cons (s_var (v := v3) rfl (s_nil ?_)))))))
  by_cases c3 : ∃ i : Int, v3 = .int i
  rotate_left
  · obtain ⟨n, hn, hk1⟩ := x3.kdI c3
    refine ⟨v3, rfl, .inr ⟨n, hk1 G2 e02, hn, s_blQ (s_T rfl (s_T rfl (no e02 ?_)))⟩⟩
    rintro ⟨_, _, _, i, e, _⟩
    exact c3 ⟨i, (List.cons.inj (List.cons.inj (List.cons.inj e).2).2).1⟩
  obtain ⟨i, rfl⟩ := c3
  refine ⟨.int i, rfl, .inl ⟨i, rfl, s_blQ ?_⟩⟩
  by_cases ci : 1 ≤ i ∧ i ≤ 99
  rotate_left
  · rw [decide_eq_false ci]
    refine s_T rfl (s_T rfl (no e02 ?_))
    rintro ⟨_, _, _, i', e, _, _, h1, h2, _⟩
    have := V.int.inj (List.cons.inj (List.cons.inj (List.cons.inj e).2).2).1
    subst this
    exact ci ⟨h1, h2⟩
  rw [decide_eq_true ci]
  refine s_F rfl (s_not (s_tB (s_call (s_cons (s_var (v := c) rfl (s_cons (s_c (s_nil ?_))))))))
  have hrow : ∀ (R : VK), (∀ G, G = G2 → R (.bl pe) G) → sp_is_row K ([c, .int 0] ++ []) G2 R E0 := fun R kk => by
    rcases hc G2 e02 with ⟨q, xs, rfl, hs, e, _⟩ | ⟨e, n, hn, hkn⟩
    · refine u_row hs ?_
      have := kk G2 rfl
      rw [e] at this
      have z : decide ((xs.length : Int) = 0) = decide (xs.length = 0) := by
        by_cases h : xs.length = 0
        · rw [decide_eq_true h, decide_eq_true (by omega)]
        · rw [decide_eq_false h, decide_eq_false (by omega)]
      rw [z]
      exact this
    · refine ⟨c, 0, rfl, .inr ⟨n, hkn, hn, ?_⟩⟩
      have := kk G2 rfl
      rw [e] at this
      exact this
  refine hrow _ fun G eG => ?_
  subst eG
  refine s_blQ ?_
  cases hpe : pe with
  | false =>
    refine s_T rfl (no e02 ?_)
    rw [hpe]
    rintro ⟨z, _⟩
    cases z
  | true =>
  rw [hpe] at k no
  refine s_F rfl (s_next ?_)
  have hk2 : KindAt K G kd cs ps := hk.ex0 e02
  have hx2 : LoopAt K G x M := hx.ex0 e02
  have une := isWord_ne wu
  have tne := isWord_ne wt
  refine s_seq (s_ifS (s_or (s_test (s_op (s_makeE (s_cons (s_var (v := vS u) rfl (s_nil (u_makeRing wu fun r G3 nr e3 hr => s_var (v := .ref kd) rfl ?_)))))))))
  have lle : (leastT u).length ≤ 600 := by rw [leastT_len une]; exact (isWord_len wu).2
  refine u_inKindR (neg := true) (hk2.ex0 e3) hr lle fun G4 e4 => s_blQ ?_
  have e04 := e02.trans (e3.trans e4)
  rw [if_pos rfl, closes_least une]
  by_cases cc : closesB u ps = true
  rotate_left
  · rw [Bool.eq_false_iff.mpr cc]
    refine s_T rfl (s_T rfl (no e04 ?_))
    rintro ⟨_, u', _, _, e, hu, _, _, _, h, _⟩
    have := vS_inj pu (plain_word hu) (List.cons.inj e).1
    subst this
    exact cc h
  rw [cc]
  refine s_F rfl (s_test (s_op (s_makeE (s_cons (s_var (v := vS u) rfl (s_nil (u_makeRing wu fun r1 G5 nr1 e5 hr1 => s_makeE (s_cons (s_var (v := vS t) rfl (s_nil (u_makeRing wt fun r2 G6 nr2 e6 hr2 => ?_)))))))))))
  have e06 := e04.trans (e5.trans e6)
  refine u_neRing F (RingAt.ex e6 (by simp) hr1) hr2 (s_blQ ?_)
  by_cases ct : leastT u = leastT t
  rotate_left
  · refine s_nTd ct (no e06 ?_)
    rintro ⟨_, u', t', _, e, hu, ht, _, _, _, h, _⟩
    have z1 := vS_inj pu (plain_word hu) (List.cons.inj e).1
    have z2 := vS_inj pt (plain_word ht) (List.cons.inj (List.cons.inj e).2).1
    subst z1 z2
    exact ct h
  refine s_nFd ct (s_next ?_)
  have iu := inAb_of wu hps cc
  have it := inAb_turn iu tne ct
  have hx6 : LoopAt K G6 x M := hx2.ex0 (e3.trans (e4.trans (e5.trans e6)))
  refine s_ret (s_op (s_methE (s_var (v := .ref x) rfl (u_methLoop hx6 rfl (s_cons (s_var (v := vS u) rfl (s_cons (s_var (v := .int i) rfl (s_nil ?_)))))))))
  refine ⟨x, u, i, rfl, M, hx6, g, iu, ci.1, fun q1 G7 e7 h7 => ?_⟩
  have hx7 := hx6.ex0 e7
  refine s_methE (s_var (v := .ref x) rfl (u_methLoop hx7 rfl (s_cons (s_var (v := vS t) rfl (s_cons (s_var (v := .int i) rfl (s_nil ?_)))))))
  refine ⟨x, t, i, rfl, M, hx7, g, it, ci.1, fun q2 G8 e8 h8 => ?_⟩
  refine s_neIB7 (SqT.of (e8.get0 h7)) (SqT.of h8) (k _ G8 (e06.trans (e7.trans e8)) ?_)
  have an : ∀ (z : Bool), (z = true ↔ ansM M u i ≠ ansM M t i) → (z = true ↔ Dif7 M ps [vS u, vS t, .int i] true) := fun z hz => by
    rw [hz]
    constructor
    · intro h
      exact ⟨rfl, u, t, i, rfl, wu, wt, ci.1, ci.2, cc, ct, h⟩
    · rintro ⟨_, u', t', i', e, hu, ht, _, _, _, _, h⟩
      have z1 := vS_inj pu (plain_word hu) (List.cons.inj e).1
      have z2 := vS_inj pt (plain_word ht) (List.cons.inj (List.cons.inj e).2).1
      have z3 := V.int.inj (List.cons.inj (List.cons.inj (List.cons.inj e).2).2).1
      subst z1 z2 z3
      exact h
  refine an _ ?_
  unfold ansM
  rw [Bool.not_eq_true', Bool.and_eq_false_iff, ne_eq, Prod.mk.injEq, not_and]
  constructor
  · rintro (h | h) h1 h2
    · rw [h1] at h; simp at h
    · rw [h2] at h; simp at h
  · intro h
    by_cases z : cnt M u (i.toNat - 1) = cnt M t (i.toNat - 1)
    · right
      have := h z
      cases q1 : decide (orb M u i.toNat ∈ M.ok) <;> cases q2 : decide (orb M t i.toNat ∈ M.ok) <;> simp_all
    · left
      simpa using z
end
end WB
namespace WB
open PySem PySem.Spec PyProof.Rows L2
def t_accepts (K : PySem.W.Frag) (w : World) : TS :=
  (tSeq (tIfS (tOr (tNot (tB (tCB (rIsi K) (tCons (tVar 0) (tCons (tC (.ty "tuple")) tNil))))) (tOr (tTest (tOp rLtI (tCB (rLenV K) (tCons (tVar 0) tNil)) (tC (.int 4)))) (tNot (tB (tCB (rIsi K) (tCons (tOp (rIxT K) (tVar 0) (tC (.int 0))) (tCons (tC (.ty "str")) tNil))))))) (tRet (tC (.bl false))) tNext)
  (tSeq (tIfS (tOr (tTest (tOp (rNotInKd K w) (tOp (rIxT K) (tVar 0) (tC (.int 0))) (tC (.ref (He.ga K "LENGTHS"))))) (tTest (tOp rNe (tCB (rLenV K) (tCons (tVar 0) tNil)) (tOp (rIxD K w) (tC (.ref (He.ga K "LENGTHS"))) (tOp (rIxT K) (tVar 0) (tC (.int 0))))))) (tRet (tC (.bl false))) tNext)
  (tSeq (tAsg (tTup (tCons (tCall (sp_loop_of K) [] E0 (tCons (tOp (rIxT K) (tVar 0) (tC (.int 1))) tNil)) (tCons (tCall (sp_kind_of K) [] E0 (tCons (tOp (rIxT K) (tVar 0) (tC (.int 2))) tNil)) tNil))) (gTup K 2 (gCons (gName 2) (gCons (gName 3) gNil))))
  (tSeq (tIfS (tOr (tTest (tOp rIsN1 (tVar 2) (tC .non))) (tOr (tTest (tOp rIsN1 (tVar 3) (tC .non))) (tNot (tB (tCB (rAll K) (tCons (tLc (iStr (tProp (He.ga K "Kind") (sp_Kind_signs K) [] E0 (tVar 3))) (gName 4) tYes (tOp rInSg (tVar 4) (tProp (He.ga K "Loop") (sp_Loop_signs K) [] E0 (tVar 2))) [4]) tNil)))))) (tRet (tC (.bl false))) tNext)
  (tSeq (tAsg (tOp (rIxD K w) (tC (.ref (He.ga K "JUDGES"))) (tOp (rIxT K) (tVar 0) (tC (.int 0)))) (gName 5))
  (tRet (tCallL 5 (He.ga K "shows_differ") (sp_shows_differ K) E0 (tCons (tVar 2) (tCons (tVar 3) (tCons (tSl (rSlA K) (tVar 0) (tPart (tC (.int 3))) tNoPart) (tCons (tVar 1) tNil)))))))))))
def t_law7_accepted (K : PySem.W.Frag) (w : World) : TS :=
  (tSeq (tAsg (tCall (sp_accepts K w) [] E0 (tCons (tVar 0) (tCons (tVar 1) tNil))) (gName 3))
  (tRet (tAndV (tCB (rIsi K) (tCons (tVar 3) (tCons (tC (.ty "bool")) tNil))) (tOp rEq (tVar 3) (tVar 2)))))
section
variable {K : PySem.W.Frag} {w : World} {vs : List V} {H H' : Hp} {Q : VK} {E : XK} {a : Addr} {v : V} {m : List Addr}
theorem s_eqB7 {b c : Bool} (k : Q (.bl (decide (b = c))) H) : rEq (.bl b) (.bl c) H Q := ⟨rfl, by
  have : decide (V.bl b = V.bl c) = decide (b = c) := by simp
  rw [this]; exact k⟩
theorem all_in {cs ab : List Nat} (h : ∀ c ∈ cs, c ∈ ab) : (cs.map fun c => decide (c ∈ ab)).all id = true := by
  rw [List.all_eq_true]
  intro b hb
  obtain ⟨c, hc, rfl⟩ := List.mem_map.mp hb
  exact decide_eq_true (h c hc)
theorem row_pairs {cs : List Nat} {ps : List (List Nat)} (g : goodRow cs ps) {ab : List Nat} (h : ∀ c ∈ cs, c ∈ ab) : ∀ q ∈ ps, ∀ c ∈ q, c ∈ ab := fun q hq c hc => h c ((g.2.2.1.2 q hq).2 c hc)
theorem pure_accepts (T : KdL K w) (h : sp_accepts K w vs H Q E) : t_accepts K w (E1 Q) (start ["claim", "certificate", "loop", "kind", "sign", "shows"] vs) H := by
  obtain ⟨p, c, rfl, r, kd, rest, M, cs, ps, pe, hp, lr, hel, hr, gl, hk, gk, hin, hc, k⟩ := h
  show t_accepts K w (E1 Q) [some (.ref p), some c, none, none, none, none] H
  unfold t_accepts
  have sd : (vS sDiffer : V) = .str "differ" := by
    show V.str (S sDiffer) = _
    exact congrArg V.str (by decide +kernel)
  have ln : (vS sDiffer :: V.ref r :: V.ref kd :: rest).length = rest.length + 3 := rfl
  have no : ∀ {x2 x3 x4 x5 : Option V}, rest.length ≠ 3 → tRet (tC (.bl false)) (E1 Q) [some (.ref p), some c, x2, x3, x4, x5] H := fun {_ _ _ _} n => s_ret (s_c (k false H Ex.rfl (Iff.intro (fun z => Bool.noConfusion z) fun ⟨_, u, t, i, e, _⟩ => absurd (by rw [e]; rfl) n)))
  refine s_seq (s_ifS (s_or (s_not (s_tB (s_cb (s_cons (s_var (v := .ref p) rfl (s_cons (s_c (s_nil (s_isiK (Kd.tup hp) (b := true) (by decide +kernel) (s_blQ (s_F rfl ?_)))))))))))))
  refine s_or (s_test (s_op (s_cb (s_cons (s_var (v := .ref p) rfl (s_nil (s_lenT hp (s_c (s_ltI (s_blQ ?_))))))))))
  by_cases c0 : rest.length = 0
  · refine s_Td (by simp only [List.length_cons]; omega) (s_T rfl (no (by omega)))
  refine s_Fd (by simp only [List.length_cons]; omega) ?_
  have at0 : atI (vS sDiffer :: V.ref r :: V.ref kd :: rest) 0 = some (vS sDiffer) := atI_of (by decide) rfl
  have at1 : atI (vS sDiffer :: V.ref r :: V.ref kd :: rest) 1 = some (V.ref r) := atI_of (by decide) rfl
  have at2 : atI (vS sDiffer :: V.ref r :: V.ref kd :: rest) 2 = some (V.ref kd) := atI_of (by decide) rfl
  refine s_not (s_tB (s_cb (s_cons (s_op (s_var (v := .ref p) rfl (s_c (s_ixT hp at0 (s_cons (s_c (s_nil (s_isiK Kd.str (b := true) (by decide +kernel) (s_blQ (s_F rfl (s_next ?_))))))))))))))
  refine s_seq (s_ifS (s_or (s_test (s_op (s_op (s_var (v := .ref p) rfl (s_c (s_ixT hp at0 (s_c ?_)))))))))
  rw [sd]
  refine s_notInKd T.l (s_blQ (s_F rfl ?_))
  refine s_test (s_op (s_cb (s_cons (s_var (v := .ref p) rfl (s_nil (s_lenT hp (s_op (s_c (s_op (s_var (v := .ref p) rfl (s_c (s_ixT hp at0 ?_))))))))))))
  rw [sd]
  refine s_ixKd T.l (s_neI (s_blQ ?_))
  by_cases c3 : rest.length = 3
  rotate_left
  · exact s_nTd (by simp only [List.length_cons]; omega) (no c3)
  refine s_nFd (by simp only [List.length_cons]; omega) (s_next ?_)
  obtain ⟨v1, v2, v3, rfl⟩ : ∃ v1 v2 v3, rest = [v1, v2, v3] := by
    match rest, c3 with
    | [v1, v2, v3], _ => exact ⟨v1, v2, v3, rfl⟩
  refine s_seq (s_asg (s_tup (s_cons (s_call (s_cons (s_op (s_var (v := .ref p) rfl (s_c (s_ixT hp at1 (s_nil ?_))))))))))
  refine ⟨r, rfl, M, hr, gl, fun x G1 e1 hx => ?_⟩
  refine s_cons (s_call (s_cons (s_op (s_var (v := .ref p) rfl (s_c (s_ixT (sq7 e1 hp) at2 (s_nil ?_)))))))
  refine ⟨kd, rfl, cs, ps, hk.ex0 e1, gk, fun y G2 e2 hy => ?_⟩
  refine s_nil (s_alloc (by show 2 ≤ sizeLine; decide) fun q G3 _ e3 hq => s_gTup (SqT.of hq) rfl (s_gCons (s_gName (s_gCons (s_gName (s_gNil ?_))))))
  show tSeq _ _ _ [some (.ref p), some c, some (.ref x), some (.ref y), none, none] _
  have e03 := e1.trans (e2.trans e3)
  have hx3 := hx.ex0 (e2.trans e3)
  have hy3 := hy.ex0 e3
  refine s_seq (s_ifS (s_or (s_test (s_op (s_var (v := .ref x) rfl (s_c (s_isN (s_blQ (s_Fd (by intro z; cases z) ?_)))))))))
  refine s_or (s_test (s_op (s_var (v := .ref y) rfl (s_c (s_isN (s_blQ (s_Fd (by intro z; cases z) ?_)))))))
  have c4 : cs.length ≤ 4 := gk.1.2.1
  refine s_not (s_tB (s_cb (s_cons (s_lc (s_iStr (s_propE (s_var (v := .ref y) rfl (u_kSigns hy3 (s_iStrS ?_)))))))))
  refine lc_mapS (by omega) (fun _ => true) (fun c => V.bl (decide (c ∈ M.ab))) (fun c G4 C1 C0 hc' e4 k1 k0 => ?_) fun D G4 nD e4 hD => ?_
  · refine s_yes (s_T rfl ?_)
    exact s_op (s_var (v := vS [c]) rfl (s_propE (s_var (v := .ref x) rfl (u_lsigns (hx3.ex0 e4) (s_inSg (k1 _ Ex.rfl rfl))))))
  refine s_nil (s_all (bs := cs.map fun c => decide (c ∈ M.ab)) (SqL.of ?_) ?_)
  · rw [hD, List.map_map, List.filter_eq_self.mpr (by simp)]
    rfl
  rw [all_in hin]
  refine s_blQ (s_F rfl (s_next ?_))
  have e04 := e03.trans e4
  have hp4 := sq7 e04 hp
  refine s_seq (s_asg (s_op (s_c (s_op (s_var (v := .ref p) rfl (s_c (s_ixT hp4 at0 ?_)))))))
  rw [sd]
  refine s_ixKd T.j (s_gName ?_)
  refine s_ret ⟨rfl, s_cons (s_var (v := .ref x) rfl (s_cons (s_var (v := .ref y) rfl (s_cons (s_sl (s_var (v := .ref p) rfl (s_part (s_c (s_int1 (s_noPart (s_slA hp4 fun z G5 e5 hz => ?_)))))))))))⟩
  rw [cutV_from (by decide)] at hz
  refine s_cons (s_var (v := c) rfl (s_nil ?_))
  have e05 := e04.trans e5
  refine ⟨x, y, z, c, rfl, M, cs, ps, v1, v2, v3, pe, hx3.ex0 (e4.trans e5), gl.g, hy3.ex0 (e4.trans e5), row_pairs gk hin, hz, ?_, ?_, ?_, hc.ex e05, fun b G6 e6 hb => k b G6 (e05.trans e6) hb⟩
  · exact (hel v1 (by simp)).ex e05
  · exact (hel v2 (by simp)).ex e05
  · exact (hel v3 (by simp)).ex e05
theorem pure_law7_accepted (h : sp_law7_accepted K w vs H Q E) : t_law7_accepted K w (E1 Q) (start ["_law_claim_here", "_law_paper", "_law_due_here", "_law_told"] vs) H := by
  obtain ⟨p, c, bd, rfl, r, kd, rest, M, cs, ps, pe, hp, lr, hel, hr, gl, hk, gk, hin, hc, hbd, k⟩ := h
  show t_law7_accepted K w (E1 Q) [some (.ref p), some c, some (.bl bd), none] H
  unfold t_law7_accepted
  refine s_seq (s_asg (s_call (s_cons (s_var (v := .ref p) rfl (s_cons (s_var (v := c) rfl (s_nil ?_)))))))
  refine ⟨p, c, rfl, r, kd, rest, M, cs, ps, pe, hp, lr, hel, hr, gl, hk, gk, hin, hc, fun b G e hb => s_gName ?_⟩
  have eb : b = bd := by rw [Bool.eq_iff_iff, hb, hbd]
  subst eb
  refine s_ret (s_andV (s_cb (s_cons (s_var (v := .bl b) rfl (s_cons (s_c (s_nil (s_isiK Kd.bl (b := true) (by decide +kernel) (s_blQ (s_T rfl (s_op (s_var (v := .bl b) rfl (s_var (v := .bl b) rfl (s_eqB7 ?_))))))))))))))
  rw [decide_eq_true rfl]
  exact k G e
end
end WB
namespace WB
open PySem PySem.Spec PyProof.Rows L2
def t_law7_row (K : PySem.W.Frag) : TS :=
  (tSeq (tPar3 2 3 4 (tCons (tLst tNil) (tCons (tLst tNil) (tCons (tLst tNil) tNil))))
  (tSeq (tFor (iRng1 (tCons (tOp (rIxT K) (tVar 0) (tC (.int 1))) tNil)) (gName 5) (tSeq (tFor (iStr (tOp (rIxT K) (tVar 0) (tC (.int 0)))) (gName 6) (tSeq (tAsg (tDGet (tOp (rIxT K) (tVar 0) (tC (.int 2))) (tTup (tCons (tVar 5) (tCons (tVar 6) tNil)))) (gTup K 2 (gCons (gName 7) (gCons (gName 8) gNil))))
  (tDrop (tBM K "list" rAppend (tVar 2) (tCons (tTup (tCons (tOp (rIxL K) (tVar 1) (tVar 5)) (tCons (tVar 6) (tCons (tOp (rIxL K) (tVar 1) (tVar 7)) (tCons (tVar 8) tNil))))) tNil)))))
  (tSeq (tAsg (tOp (rIxL K) (tOp (rIxT K) (tVar 0) (tC (.int 3))) (tVar 5)) (gTup K 2 (gCons (gName 7) (gCons (gName 8) gNil))))
  (tSeq (tDrop (tBM K "list" rAppend (tVar 3) (tCons (tTup (tCons (tOp (rIxL K) (tVar 1) (tVar 5)) (tCons (tOp (rIxL K) (tVar 1) (tVar 7)) (tCons (tVar 8) tNil)))) tNil)))
  (tAsg (tOp rCat (tVar 4) (tOp rRep (tLst (tCons (tOp (rIxL K) (tVar 1) (tVar 5)) tNil)) (tCB rIntI (tCons (tOp (rIxL K) (tOp (rIxT K) (tVar 0) (tC (.int 4))) (tVar 5)) tNil)))) (gName 4))))))
  (tRet (tTup (tCons (tOp (rIxT K) (tVar 0) (tC (.int 0))) (tCons (tCB (rTupOf K) (tCons (tVar 1) tNil)) (tCons (tCB (rTupOf K) (tCons (tVar 2) tNil)) (tCons (tCB (rTupOf K) (tCons (tVar 3) tNil)) (tCons (tCB (rTupOf K) (tCons (tVar 4) tNil)) tNil)))))))))
section
variable {K : PySem.W.Frag} {w : World} {vs : List V} {H H' : Hp} {Q : VK} {E : XK} {a : Addr} {v : V} {m : List Addr} {D : MD} {st : List (List Nat)}
theorem flat_congr {α β : Type} {f g : α → List β} : ∀ {l : List α}, (∀ i ∈ l, f i = g i) → l.flatMap f = l.flatMap g
  | [], _ => rfl
  | a :: l, h => by rw [List.flatMap_cons, List.flatMap_cons, h a List.mem_cons_self, flat_congr fun i hi => h i (List.mem_cons_of_mem _ hi)]
theorem good_nm (g : Good7 D) (h : goodSt st) (hl : st.length = D.n) : GoodMD (nmD D st) := ⟨g.n1, by have := g.n3; show D.n ≤ 6; omega, g.s, g.srt, h, hl, g.T, g.En, g.ys⟩
theorem rws_D (g : GoodMD D) : rwsOf (loopD D) = rowsD D := by
  have e : (loopD D).ab = D.s := g.srt
  unfold rwsOf
  rw [e]
  show D.nm.flatMap _ = _
  conv => lhs; rw [← names_map g]
  rw [List.flatMap_map]
  unfold rowsD
  refine flat_congr fun i hi => List.map_congr_left fun c hc => ?_
  have hi := List.mem_range.mp hi
  have hr : (⟨D.nm.getD i [], c, D.nm.getD (D.T i c).1 [], (D.T i c).2⟩ : Rw) ∈ rowsD D := List.mem_flatMap.mpr ⟨i, List.mem_range.mpr hi, List.mem_map.mpr ⟨c, hc, rfl⟩⟩
  have ht : (loopD D).tb (D.nm.getD i []) c = (D.nm.getD (D.T i c).1 [], (D.T i c).2) := tb_of (rowsD_good g).2.1 hr
  rw [ht]
theorem tns_D (g : GoodMD D) : tnsOf (loopD D) = turnsD D := by
  unfold tnsOf
  show D.nm.map _ = _
  conv => lhs; rw [← names_map g]
  rw [List.map_map]
  unfold turnsD
  refine List.map_congr_left fun i hi => ?_
  have hi := List.mem_range.mp hi
  have hr : (⟨D.nm.getD i [], D.nm.getD (D.En i).1 [], (D.En i).2⟩ : Tn) ∈ turnsD D := List.mem_map.mpr ⟨i, List.mem_range.mpr hi, rfl⟩
  have ht : (loopD D).en (D.nm.getD i []) = (D.nm.getD (D.En i).1 [], (D.En i).2) := en_of (turnsD_good g).2 hr
  show (⟨D.nm.getD i [], ((loopD D).en (D.nm.getD i [])).1, ((loopD D).en (D.nm.getD i [])).2⟩ : Tn) = _
  rw [ht]
theorem ok_iff (g : GoodMD D) {i : Nat} (hi : i < D.n) : D.nm.getD i [] ∈ (loopD D).ok ↔ i ∈ D.ys := by
  show D.nm.getD i [] ∈ D.nm.filter _ ↔ _
  rw [List.mem_filter, decide_eq_true_iff]
  constructor
  · rintro ⟨_, h⟩
    obtain ⟨j, hj, e⟩ := List.mem_map.mp h
    rw [nm_inj g hi (g.ys.2 j hj) e.symm]
    exact hj
  · intro h
    exact ⟨nm_in g hi, List.mem_map.mpr ⟨i, h, rfl⟩⟩
theorem ok_D (g : GoodMD D) : (loopD D).ok = ((List.range D.n).filter fun i => decide (i ∈ D.ys)).map fun i => D.nm.getD i [] := by
  show D.nm.filter (fun a => decide (a ∈ yesD D)) = _
  conv => lhs; rw [← names_map g]
  rw [List.filter_map]
  congr 1
  refine List.filter_congr fun i hi => ?_
  have hi := List.mem_range.mp hi
  rw [Bool.eq_iff_iff, decide_eq_true_iff]
  show decide (D.nm.getD i [] ∈ yesD D) = true ↔ _
  rw [decide_eq_true_iff]
  have := ok_iff g hi
  rw [← this]
  show _ ↔ D.nm.getD i [] ∈ D.nm.filter _
  rw [List.mem_filter, decide_eq_true_iff]
  exact ⟨fun h => ⟨nm_in g hi, h⟩, fun h => h.2⟩
theorem s_step7 {C : V → Prop} {ss p0 : Addr} {kt : List (List Key × V)} {i c : Nat} (h1 : H ss = some (.dT kt)) (h2 : StepsOk K H kt D) (hi : i < D.n) (hc : c ∈ D.s) (hq : H p0 = some (.tup [.int (i : Nat), vS [c]])) (k : ∀ p, SqT K H p [.int ((D.T i c).1 : Nat), .int (D.T i c).2] → C (.ref p)) : ∃ b v, V.ref ss = .ref b ∧ DGet H b (.ref p0) (some v) ∧ C v := by
  obtain ⟨p, z1, z2⟩ := h2.1 i hi c hc
  exact ⟨ss, .ref p, rfl, by rw [← z1]; exact DGet.t h1 (k := [kI i, kS [c]]) hq, k p z2⟩
theorem step_ex {kt : List (List Key × V)} (e : Ex [] H H') (h : StepsOk K H kt D) : StepsOk K H' kt D := ⟨fun i hi c hc => by
  obtain ⟨p, z1, z2⟩ := h.1 i hi c hc
  exact ⟨p, z1, sq7 e z2⟩, h.2⟩
theorem end_at {ee : Addr} (h : EndsOk K H ee D) {i : Nat} (hi : i < D.n) : ∃ xs p, H ee = some (.lst xs) ∧ atI xs ((i : Nat) : Int) = some (V.ref p) ∧ SqT K H p [.int ((D.En i).1 : Nat), .int (D.En i).2] := by
  obtain ⟨xs, h1, t⟩ := h
  have hl : i < xs.length := by rw [t.1]; simp; exact hi
  obtain ⟨p, hp, sp⟩ := t.2 i _ [V.int ((D.En i).1 : Nat), .int (D.En i).2] (List.getElem?_eq_getElem hl) (by rw [List.getElem?_map, List.getElem?_range hi]; rfl)
  exact ⟨xs, p, h1, atI_of (by omega) (by rw [Int.toNat_natCast, List.getElem?_eq_getElem hl, hp]), sp⟩
theorem end_ex {ee : Addr} (e : Ex [] H H') (h : EndsOk K H ee D) : EndsOk K H' ee D := by
  obtain ⟨xs, h1, t⟩ := h
  exact ⟨xs, e.get0 h1, t.ex0 e⟩
def rwL (D : MD) (i : Nat) : List (List V) := (List.range i).flatMap fun i => D.s.map fun c => rwV ⟨D.nm.getD i [], c, D.nm.getD (D.T i c).1 [], (D.T i c).2⟩
def tnL (D : MD) (i : Nat) : List (List V) := (List.range i).map fun i => tnV ⟨D.nm.getD i [], D.nm.getD (D.En i).1 [], (D.En i).2⟩
def yeL (D : MD) (i : Nat) : List V := ((List.range i).filter fun i => decide (i ∈ D.ys)).map fun i => vS (D.nm.getD i [])
theorem rwL_len (D : MD) (i : Nat) : (rwL D i).length = i * D.s.length := by
  unfold rwL
  induction i with
  | zero => simp
  | succ i ih =>
    rw [List.range_succ, List.flatMap_append, List.length_append, ih]
    simp only [List.flatMap_cons, List.flatMap_nil, List.append_nil, List.length_map]
    rw [Nat.succ_mul]
theorem yeL_len (D : MD) (i : Nat) : (yeL D i).length ≤ i := by
  unfold yeL
  rw [List.length_map]
  exact Nat.le_trans (List.length_filter_le _ _) (by simp)
theorem tups_lst7 {q : Addr} {xs ys : List V} {ls : List (List V)} (hq : H q = some (.lst xs)) (e : Ex [q] H H') (h : Tups K H ys ls) : Tups K H' ys ls := ⟨h.1, fun i x l h1 h2 => by
  obtain ⟨p', h3, h4⟩ := h.2 i x l h1 h2
  exact ⟨p', h3, sqT_lst hq e h4⟩⟩
theorem pure_law7_row (h : sp_law7_row K vs H Q E) : t_law7_row K (E1 Q) (start ["_law_model_here", "_law_tags_here", "_law_rows", "_law_turns_here", "_law_some", "_law_state", "_law_sign", "_law_later", "_law_amount_here"] vs) H := by
  obtain ⟨q, t, rfl, D0, st, hm, g0, hst, hln, ht, k⟩ := h
  show t_law7_row K (E1 Q) [some (.ref q), some (.ref t), none, none, none, none, none, none, none] H
  unfold t_law7_row
  have g : GoodMD (nmD D0 st) := good_nm g0 hst hln
  have hm : M7At K H q (nmD D0 st) := hm
  have n3 : (nmD D0 st).n ≤ 3 := g0.n3
  have ht : H t = some (.lst ((nmD D0 st).nm.map vS)) := ht
  generalize nmD D0 st = D at g hm n3 ht k
  clear g0 hst hln
  obtain ⟨ss, ee, yy, kt, hq, hss, hkt, hee, hyy⟩ := hm
  have s4 := g.s.2.1
  have nmI : ∀ {i : Nat}, i < D.n → atI (D.nm.map vS) ((i : Nat) : Int) = some (vS (D.nm.getD i [])) := fun {i} hi => atI_of (by omega) (by rw [Int.toNat_natCast, List.getElem?_map, nm_get g hi]; rfl)
  have q0 : ∀ {G : Hp}, Ex [] H G → ∀ {R : VK}, R (vS D.s) G → rIxT K (.ref q) (.int 0) G R := fun {G} e {R} kk => s_ixT (sq7 e hq) (atI_of (by decide) rfl) kk
  have q1 : ∀ {G : Hp}, Ex [] H G → ∀ {R : VK}, R (.int (D.n : Nat)) G → rIxT K (.ref q) (.int 1) G R := fun {G} e {R} kk => s_ixT (sq7 e hq) (atI_of (by decide) rfl) kk
  have q2 : ∀ {G : Hp}, Ex [] H G → ∀ {R : VK}, R (.ref ss) G → rIxT K (.ref q) (.int 2) G R := fun {G} e {R} kk => s_ixT (sq7 e hq) (atI_of (by decide) rfl) kk
  have q3 : ∀ {G : Hp}, Ex [] H G → ∀ {R : VK}, R (.ref ee) G → rIxT K (.ref q) (.int 3) G R := fun {G} e {R} kk => s_ixT (sq7 e hq) (atI_of (by decide) rfl) kk
  have q4 : ∀ {G : Hp}, Ex [] H G → ∀ {R : VK}, R (.ref yy) G → rIxT K (.ref q) (.int 4) G R := fun {G} e {R} kk => s_ixT (sq7 e hq) (atI_of (by decide) rfl) kk
  refine s_seq (s_par3 (s_cons (s_lst (s_nil (s_alloc (by decide) fun lr H1 nr e1 hr => s_cons (s_lst (s_nil (s_alloc (by decide) fun lt H2 nt e2 ht2 => s_cons (s_lst (s_nil (s_alloc (by decide) fun ls H3 ns e3 hs => s_nil ⟨_, _, _, rfl, ?_⟩)))))))))))
  show tSeq _ _ _ [some (.ref q), some (.ref t), some (.ref lr), some (.ref lt), some (.ref ls), none, none, none, none] _
  have e03 : Ex [] H H3 := e1.trans (e2.trans e3)
  have dif : lr ≠ lt := fun z => by rw [← z, hr] at nt; cases nt
  have nt0 : H lt = none := e1.free nt
  refine s_seq (s_for (s_rng1 (s_cons (s_op (s_var (v := .ref q) rfl (s_c (q1 e03 (s_nil (s_rng1i (by omega) ?_)))))))))
  rw [Int.toNat_natCast]
  refine for_rng (fun i σ G => ∃ rs ts lx x5 x6 x7 x8, σ = [some (.ref q), some (.ref t), some (.ref lr), some (.ref lt), some (.ref lx), x5, x6, x7, x8] ∧ Ex [] H G ∧ G lr = some (.lst rs) ∧ G lt = some (.lst ts) ∧ Tups K G rs (rwL D i) ∧ Tups K G ts (tnL D i) ∧ G lx = some (.lst (yeL D i)) ∧ lx ≠ lr ∧ lx ≠ lt) ⟨[], [], ls, none, none, none, none, rfl, e03, e3.get0 (e2.get0 hr), e3.get0 ht2, Tups.nil, Tups.nil, hs, fun z => (by rw [z, e2.get0 hr] at ns; cases ns), fun z => (by rw [z, ht2] at ns; cases ns)⟩ ?_ ?_
  · rintro i σ G hi ⟨rs, ts, lx, x5, x6, x7, x8, rfl, eG, hrs, hts, Tr, Tt, hlx, nx1, nx2⟩
    refine s_gName ?_
    rw [Int.zero_add]
    show tSeq _ _ _ [some (.ref q), some (.ref t), some (.ref lr), some (.ref lt), some (.ref lx), some (.int (i : Nat)), x6, x7, x8] _
    have wk := walk_str (z := S D.s)
    have hsz : (S D.s).cps.size = D.s.length := by simp [S]
    rw [hsz] at wk
    refine s_seq (s_for (s_iStr (s_op (s_var (v := .ref q) rfl (s_c (q0 eG (s_iStrS ?_)))))))
    refine for_run wk (fun j σ J => ∃ rs x6 x7 x8, σ = [some (.ref q), some (.ref t), some (.ref lr), some (.ref lt), some (.ref lx), some (.int (i : Nat)), x6, x7, x8] ∧ Ex [] H J ∧ J lr = some (.lst rs) ∧ J lt = some (.lst ts) ∧ Tups K J rs (rwL D i ++ (D.s.take j).map fun c => rwV ⟨D.nm.getD i [], c, D.nm.getD (D.T i c).1 [], (D.T i c).2⟩) ∧ Tups K J ts (tnL D i) ∧ J lx = some (.lst (yeL D i))) ⟨rs, _, _, _, rfl, eG, hrs, hts, by simpa using Tr, Tt, hlx⟩ (fun _ _ _ _ _ => trivial) ?_ ?_
    · rintro j y σ J J2 hj ⟨rs, x6, x7, x8, rfl, e4, z4, z4t, t4, tt4, zl⟩ ⟨rfl, c, hc, ev⟩
      have ev : y = vS [c] := ev
      subst ev
      have hc : D.s[j]? = some c := by simpa [S] using hc
      have hcm := List.mem_of_getElem? hc
      have ht1 : D.s.take (j + 1) = D.s.take j ++ [c] := by rw [List.take_add_one, hc]; rfl
      refine s_gName ?_
      show tSeq _ _ _ [some (.ref q), some (.ref t), some (.ref lr), some (.ref lt), some (.ref lx), some (.int (i : Nat)), some (vS [c]), x7, x8] _
      refine s_seq (s_asg (s_dget (s_op (s_var (v := .ref q) rfl (s_c (q2 e4 (s_tup (s_cons (s_var (v := .int (i : Nat)) rfl (s_cons (s_var (v := vS [c]) rfl (s_nil (s_alloc (by show 2 ≤ sizeLine; decide) fun k0 J3 nk0 e5 z5 => ?_)))))))))))))
      have e05 := e4.trans e5
      refine s_step7 (e05.get0 hss) (step_ex e05 hkt) hi hcm z5 fun p hp => ?_
      refine s_gTup hp rfl (s_gCons (s_gName (s_gCons (s_gName (s_gNil ?_)))))
      show tDrop _ _ [some (.ref q), some (.ref t), some (.ref lr), some (.ref lt), some (.ref lx), some (.int (i : Nat)), some (vS [c]), some (.int ((D.T i c).1 : Nat)), some (.int (D.T i c).2)] _
      have hb := (g.T i hi c hcm).1
      refine s_drop (s_bm (s_var (v := .ref lr) rfl (s_tyL (e5.get0 z4) (s_cons (s_tup (s_cons (s_op (s_var (v := .ref t) rfl (s_var (v := .int (i : Nat)) rfl (s_ixL (SqL.of (e05.get0 ht)) (nmI hi) ?_))))))))))
      refine s_cons (s_var (v := vS [c]) rfl (s_cons (s_op (s_var (v := .ref t) rfl (s_var (v := .int ((D.T i c).1 : Nat)) rfl (s_ixL (SqL.of (e05.get0 ht)) (nmI hb) (s_cons (s_var (v := .int (D.T i c).2) rfl (s_nil (s_alloc (by show 4 ≤ sizeLine; decide) fun p4 J4 np4 e6 z6 => s_nil ?_))))))))))
      have lx4 : rs.length ≤ 100 := by
        rw [t4.1, List.length_append, List.length_map, List.length_take, rwL_len]
        have : i * D.s.length ≤ 3 * 4 := Nat.mul_le_mul (by omega) s4
        omega
      refine s_append (e6.get0 (e5.get0 z4)) (Nat.lt_of_le_of_lt lx4 (by decide)) fun J5 e7 z7 => ?_
      have nr0 : H lr = none := nr
      refine ⟨rs ++ [.ref p4], _, _, _, rfl, Ex.drop nr0 (e05.trans e6) e7, z7, e7.get (by simpa using Ne.symm dif) (e6.get0 (e5.get0 z4t)), ?_, tups_lst7 (e6.get0 (e5.get0 z4)) e7 (tt4.ex0 (e5.trans e6)), e7.get (by simpa using nx1) (e6.get0 (e5.get0 zl))⟩
      rw [ht1, List.map_append, ← List.append_assoc]
      exact Tups.snoc (tups_lst7 (e6.get0 (e5.get0 z4)) e7 (t4.ex0 (e5.trans e6))) (sqT_lst (e6.get0 (e5.get0 z4)) e7 (SqT.of z6))
    · rintro σ J ⟨rs, x6, x7, x8, rfl, e4, z4, z4t, t4, tt4, zl⟩
      rw [List.take_length] at t4
      obtain ⟨xs, pe, f1, f2, f3⟩ := end_at (end_ex e4 hee) hi
      refine s_seq (s_asg (s_op (s_op (s_var (v := .ref q) rfl (s_c (q3 e4 (s_var (v := .int (i : Nat)) rfl (s_ixL (SqL.of f1) f2 ?_))))))))
      refine s_gTup f3 rfl (s_gCons (s_gName (s_gCons (s_gName (s_gNil ?_)))))
      show tSeq _ _ _ [some (.ref q), some (.ref t), some (.ref lr), some (.ref lt), some (.ref lx), some (.int (i : Nat)), x6, some (.int ((D.En i).1 : Nat)), some (.int (D.En i).2)] _
      have hb := (g.En i hi).1
      refine s_seq (s_drop (s_bm (s_var (v := .ref lt) rfl (s_tyL z4t (s_cons (s_tup (s_cons (s_op (s_var (v := .ref t) rfl (s_var (v := .int (i : Nat)) rfl (s_ixL (SqL.of (e4.get0 ht)) (nmI hi) ?_)))))))))))
      refine s_cons (s_op (s_var (v := .ref t) rfl (s_var (v := .int ((D.En i).1 : Nat)) rfl (s_ixL (SqL.of (e4.get0 ht)) (nmI hb) (s_cons (s_var (v := .int (D.En i).2) rfl (s_nil (s_alloc (by show 3 ≤ sizeLine; decide) fun p4 J4 np4 e6 z6 => s_nil ?_))))))))
      have lt4 : ts.length ≤ 100 := by
        rw [tt4.1]
        unfold tnL
        rw [List.length_map, List.length_range]
        omega
      refine s_append (e6.get0 z4t) (Nat.lt_of_le_of_lt lt4 (by decide)) fun J5 e7 z7 => ?_
      have e05 : Ex [] H J5 := Ex.drop nt0 (e4.trans e6) e7
      have zl5 := e7.get (by simpa using nx2) (e6.get0 zl)
      refine s_asg (s_op (s_var (v := .ref lx) rfl (s_op (s_lst (s_cons (s_op (s_var (v := .ref t) rfl (s_var (v := .int (i : Nat)) rfl (s_ixL (SqL.of (e05.get0 ht)) (nmI hi) (s_nil (s_alloc (by show 1 ≤ sizeLine; decide) fun o1 J6 no1 e8 z8 => ?_)))))))))))
      have e06 := e05.trans e8
      have hiy : i < ((List.range D.n).map fun i => V.bl (decide (i ∈ D.ys))).length := by simp; exact hi
      refine s_cb (s_cons (s_op (s_op (s_var (v := .ref q) rfl (s_c (q4 e06 (s_var (v := .int (i : Nat)) rfl (s_ixL (v := .bl (decide (i ∈ D.ys))) (SqL.of (e06.get0 hyy)) (atI_of (by omega) (by rw [Int.toNat_natCast, List.getElem?_map, List.getElem?_range hi]; rfl)) (s_nil (s_intB ?_))))))))))
      have fin : ∀ {k1 : Nat} {ys : List V} {o2 : Addr} {J7 : Hp}, yeL D i ++ ys = yeL D (i + 1) → Ex [] J6 J7 → J7 o2 = some (.lst ys) → rCat (.ref lx) (.ref o2) J7 (fun x H1 => gName 4 x [some (.ref q), some (.ref t), some (.ref lr), some (.ref lt), some (.ref lx), some (.int (i : Nat)), x6, some (.int ((D.En i).1 : Nat)), some (.int (D.En i).2)] H1 fun σ G => ∃ rs ts lx x5 x6 x7 x8, σ = [some (.ref q), some (.ref t), some (.ref lr), some (.ref lt), some (.ref lx), x5, x6, x7, x8] ∧ Ex [] H G ∧ G lr = some (.lst rs) ∧ G lt = some (.lst ts) ∧ Tups K G rs (rwL D (i + 1)) ∧ Tups K G ts (tnL D (i + 1)) ∧ G lx = some (.lst (yeL D (i + 1))) ∧ lx ≠ lr ∧ lx ≠ lt) := fun {k1 ys o2 J7} ey e9 z9 => by
        have ll := yeL_len D (i + 1)
        rw [← ey, List.length_append] at ll
        refine s_cat (e9.get0 (e8.get0 zl5)) z9 (by rw [sizeLine_eq]; omega) fun o3 J8 no3 e10 z10 => s_gName ?_
        have z7' := e10.get0 (e9.get0 (e8.get0 z7))
        have z4' := e10.get0 (e9.get0 (e8.get0 (e7.get (by simpa using dif) (e6.get0 z4))))
        have e810 := e8.trans (e9.trans e10)
        refine ⟨rs, ts ++ [.ref p4], o3, _, _, _, _, rfl, e05.trans e810, z4', z7', ?_, ?_, by rw [z10, ey], fun z => (by rw [z, e9.get0 (e8.get0 (e7.get (by simpa using dif) (e6.get0 z4)))] at no3; cases no3), fun z => (by rw [z, e9.get0 (e8.get0 z7)] at no3; cases no3)⟩
        · have er : rwL D (i + 1) = rwL D i ++ D.s.map fun c => rwV ⟨D.nm.getD i [], c, D.nm.getD (D.T i c).1 [], (D.T i c).2⟩ := by
            unfold rwL
            rw [List.range_succ, List.flatMap_append]
            simp
          rw [er]
          exact Tups.ex0 e810 (tups_lst7 (e6.get0 z4t) e7 (t4.ex0 e6))
        · have er : tnL D (i + 1) = tnL D i ++ [tnV ⟨D.nm.getD i [], D.nm.getD (D.En i).1 [], (D.En i).2⟩] := by
            unfold tnL
            rw [List.range_succ, List.map_append]
            rfl
          rw [er]
          exact Tups.ex0 e810 (Tups.snoc (tups_lst7 (e6.get0 z4t) e7 (tt4.ex0 e6)) (sqT_lst (e6.get0 z4t) e7 (SqT.of z6)))
      by_cases hy : i ∈ D.ys
      · rw [decide_eq_true hy, if_pos rfl]
        refine s_repL z8 (by decide) (by decide) (by rw [sizeLine_eq]; simp) fun o2 J7 _ e9 z9 => fin (k1 := 1) ?_ e9 z9
        unfold yeL
        rw [List.range_succ, List.filter_append, List.map_append]
        simp [hy, rep]
      · rw [decide_eq_false hy, if_neg (by decide)]
        refine s_repL z8 (by decide) (by decide) (by rw [sizeLine_eq]; simp) fun o2 J7 _ e9 z9 => fin (k1 := 0) ?_ e9 z9
        unfold yeL
        rw [List.range_succ, List.filter_append, List.map_append]
        simp [hy, rep]
  · rintro σ G ⟨rs, ts, lx, x5, x6, x7, x8, rfl, eG, hrs, hts, Tr, Tt, hlx, nx1, nx2⟩
    refine s_ret (s_tup (s_cons (s_op (s_var (v := .ref q) rfl (s_c (q0 eG (s_cons (s_cb (s_cons (s_var (v := .ref t) rfl (s_nil (s_tupOf (SqL.of (eG.get0 ht)) fun o G1 no f1 ho => ?_))))))))))))
    refine s_cons (s_cb (s_cons (s_var (v := .ref lr) rfl (s_nil (s_tupOf (SqL.of (f1.get0 hrs)) fun r G2 nr2 f2 hr2 => ?_)))))
    refine s_cons (s_cb (s_cons (s_var (v := .ref lt) rfl (s_nil (s_tupOf (SqL.of (f2.get0 (f1.get0 hts))) fun tt G3 nt3 f3 ht3 => ?_)))))
    refine s_cons (s_cb (s_cons (s_var (v := .ref lx) rfl (s_nil (s_tupOf (SqL.of (f3.get0 (f2.get0 (f1.get0 hlx)))) fun y G4 ny f4 hy => ?_)))))
    refine s_nil (s_alloc (by show 5 ≤ sizeLine; decide) fun p G5 np f5 hp => ?_)
    have f15 := f1.trans (f2.trans (f3.trans (f4.trans f5)))
    refine k p G5 (eG.trans f15) ⟨o, r, tt, y, ?_, SqT.of (f5.get0 (f4.get0 (f3.get0 (f2.get0 ho)))), ?_, ?_, ?_⟩
    · have e : (loopD D).ab = D.s := g.srt
      rw [e]
      exact SqT.of hp
    · have e : (rwsOf (loopD D)).map rwV = rwL D D.n := by
        rw [rws_D g]
        unfold rowsD rwL
        rw [List.map_flatMap]
        congr 1
        funext i
        rw [List.map_map]
        rfl
      rw [e]
      exact TupsAt.mk (SqT.of (f5.get0 (f4.get0 (f3.get0 hr2)))) (Tr.ex0 f15)
    · have e : (tnsOf (loopD D)).map tnV = tnL D D.n := by
        rw [tns_D g]
        unfold turnsD tnL
        rw [List.map_map]
        rfl
      rw [e]
      exact TupsAt.mk (SqT.of (f5.get0 (f4.get0 ht3))) (Tt.ex0 f15)
    · have e : (loopD D).ok.map vS = yeL D D.n := by
        rw [ok_D g, List.map_map]
        rfl
      rw [e]
      exact SqT.of (f5.get0 hy)
end
end WB
namespace WB
open PySem PySem.Spec PyProof.Rows L2
def t_law7_answers (K : PySem.W.Frag) : TS :=
  (tSeq (tAsg (tVar 0) (gTup K 5 (gCons (gName 3) (gCons (gName 4) (gCons (gName 5) (gCons (gName 6) (gCons (gName 7) gNil)))))))
  (tSeq (tPar 8 9 (tCons (tC (.int 0)) (tCons (tLst tNil) tNil)))
  (tSeq (tFor (iRng1 (tCons (tVar 2) tNil)) (gName 10) (tSeq (tAsg (tC (.int 0)) (gName 11))
  (tSeq (tFor (iStr (tVar 1)) (gName 12) (tSeq (tAsg (tDGet (tVar 5) (tTup (tCons (tVar 8) (tCons (tVar 12) tNil)))) (gTup K 2 (gCons (gName 8) (gCons (gName 13) gNil))))
  (tAsg (tOp rAddI (tVar 11) (tVar 13)) (gName 11))))
  (tSeq (tAsg (tOp (rIxL K) (tVar 6) (tVar 8)) (gTup K 2 (gCons (gName 8) (gCons (gName 13) gNil))))
  (tDrop (tBM K "list" rAppend (tVar 9) (tCons (tTup (tCons (tOp rAddI (tVar 11) (tVar 13)) (tCons (tOp (rIxL K) (tVar 7) (tVar 8)) tNil))) tNil)))))))
  (tRet (tVar 9)))))
def t_law7_answer (K : PySem.W.Frag) : TS :=
  (tRet (tOp (rIxL K) (tCall (sp_law7_answers K) [] E0 (tCons (tVar 0) (tCons (tVar 1) (tCons (tCall (sp_law7_near K) [] E0 (tCons (tVar 2) (tCons (tOp (rIxT K) (tVar 0) (tC (.int 1))) tNil))) tNil)))) (tUn rNegI (tC (.int 1)))))
section
variable {K : PySem.W.Frag} {w : World} {vs : List V} {H H' : Hp} {Q : VK} {E : XK} {a : Addr} {v : V} {m : List Addr} {D : MD} {st : List (List Nat)} {M : LM} {u : List Nat}
theorem atI_last7 {α : Type} {l : List α} {v : α} (h : l[l.length - 1]? = some v) : atI l (-1) = some v := by
  have hl := (List.getElem?_eq_some_iff.mp h).1
  unfold atI ixN
  rw [if_neg (by decide), if_pos (by omega)]
  show l[((-1 : Int) + (l.length : Int)).toNat]? = _
  rw [show ((-1 : Int) + (l.length : Int)).toNat = l.length - 1 by omega]
  exact h
theorem tb_D (g : GoodMD D) {i c : Nat} (hi : i < D.n) (hc : c ∈ D.s) : (loopD D).tb (D.nm.getD i []) c = (D.nm.getD (D.T i c).1 [], (D.T i c).2) :=
  tb_of (rowsD_good g).2.1 (r := ⟨D.nm.getD i [], c, D.nm.getD (D.T i c).1 [], (D.T i c).2⟩) (List.mem_flatMap.mpr ⟨i, List.mem_range.mpr hi, List.mem_map.mpr ⟨c, hc, rfl⟩⟩)
theorem en_D (g : GoodMD D) {i : Nat} (hi : i < D.n) : (loopD D).en (D.nm.getD i []) = (D.nm.getD (D.En i).1 [], (D.En i).2) :=
  en_of (turnsD_good g).2 (t := ⟨D.nm.getD i [], D.nm.getD (D.En i).1 [], (D.En i).2⟩) (List.mem_map.mpr ⟨i, List.mem_range.mpr hi, rfl⟩)
theorem orb_per {b n : Nat} (hb : b < n) (h : orb M u n = orb M u b) {p : Nat} (hp : (n - b) ∣ p) {x : Nat} (hx : b ≤ x) (t : Nat) : orb M u (x + t * p) = orb M u x := by
  obtain ⟨k, rfl⟩ := hp
  have e := orb_mul hb h (x - b) (t * k)
  have e1 : b + (x - b) = x := by omega
  rw [e1] at e
  have e2 : t * ((n - b) * k) = t * k * (n - b) := by rw [Nat.mul_comm (n - b) k, Nat.mul_assoc]
  rw [e2]
  exact e
theorem cnt_eq {x y : Nat} (h : orb M u x = orb M u y) : cnt M u x = cnt M u y := by
  unfold cnt
  rw [h]
theorem per_dvd {n L : Nat} (h1 : 1 ≤ n) (h2 : n ≤ L) (h3 : L ≤ 3) : n ∣ per7 L := by
  rcases (by omega : L = 1 ∨ L = 2 ∨ L = 3) with rfl | rfl | rfl
  · rw [show n = 1 by omega]; decide
  · rcases (by omega : n = 1 ∨ n = 2) with rfl | rfl <;> decide
  · rcases (by omega : n = 1 ∨ n = 2 ∨ n = 3) with rfl | rfl | rfl <;> decide
theorem per_pos {L : Nat} (h1 : 1 ≤ L) (h3 : L ≤ 3) : 1 ≤ per7 L ∧ per7 L ≤ 6 := by
  rcases (by omega : L = 1 ∨ L = 2 ∨ L = 3) with rfl | rfl | rfl <;> decide
theorem near_ok (g : GoodM M) (hw : ∀ c ∈ u, c ∈ M.ab) (h3 : M.st.length ≤ 3) {i : Int} (hi : 1 ≤ i) (h99 : i ≤ 99) : 1 ≤ near7 i M.st.length ∧ near7 i M.st.length ≤ 100 ∧ cnt M u ((near7 i M.st.length).toNat - 1) = cnt M u (i.toNat - 1) ∧ orb M u (near7 i M.st.length).toNat = orb M u i.toNat := by
  have h1 : 1 ≤ M.st.length := g.st.1
  obtain ⟨b, n, hb, hn, he⟩ := orb_againS g hw
  obtain ⟨p1, p6⟩ := per_pos h1 h3
  have hd : (n - b) ∣ per7 M.st.length := per_dvd (by omega) (by omega) h3
  unfold near7
  split
  · exact ⟨hi, by omega, rfl, rfl⟩
  rename_i hc
  generalize per7 M.st.length = p at *
  generalize M.st.length = L at *
  obtain ⟨x, rfl⟩ := Int.eq_ofNat_of_zero_le (show 0 ≤ i by omega)
  have hx : L + p ≤ x := by omega
  have e1 : ((x : Nat) : Int) - (L : Nat) = ((x - L : Nat) : Int) := by omega
  have e2 : ((x - L : Nat) : Int) % ((p : Nat) : Int) = (((x - L) % p : Nat) : Int) := (Int.natCast_emod _ _).symm
  rw [e1, e2]
  have lt := Nat.mod_lt (x - L) (show 0 < p by omega)
  have dm := Nat.mod_add_div (x - L) p
  have ex : x = (L + (x - L) % p) + ((x - L) / p) * p := by
    rw [Nat.mul_comm]
    omega
  have e3 : (((L : Nat) : Int) + (((x - L) % p : Nat) : Int)).toNat = L + (x - L) % p := by omega
  refine ⟨by omega, by omega, ?_, ?_⟩
  · rw [e3, Int.toNat_natCast]
    refine (cnt_eq ?_).symm
    have ex2 : x - 1 = (L + (x - L) % p - 1) + ((x - L) / p) * p := by omega
    rw [ex2]
    exact orb_per hb he hd (by omega) _
  · rw [e3, Int.toNat_natCast]
    conv => rhs; rw [ex]
    exact (orb_per hb he hd (by omega) _).symm
def anL (M : LM) (u : List Nat) (n : Nat) : List (List V) := (List.range n).map fun i => [V.int (cnt M u i), .bl (decide (orb M u (i + 1) ∈ M.ok))]
theorem anL_succ : anL M u (n + 1) = anL M u n ++ [[V.int (cnt M u n), .bl (decide (orb M u (n + 1) ∈ M.ok))]] := by
  unfold anL
  rw [List.range_succ, List.map_append]
  rfl
theorem pure_law7_answers (h : sp_law7_answers K vs H Q E) : t_law7_answers K (E1 Q) (start ["_law_model_here", "_law_word", "_law_many", "_law_signs_here", "_law_size", "_law_steps", "_law_ends", "_law_says", "_law_state", "_law_found", "_law_turn", "_law_count", "_law_sign", "_law_amount_here"] vs) H := by
  obtain ⟨q, u, N, rfl, D0, st, hm, g0, hst, hln, hu, hN, k⟩ := h
  show t_law7_answers K (E1 Q) [some (.ref q), some (vS u), some (.int (N : Nat)), none, none, none, none, none, none, none, none, none, none, none] H
  unfold t_law7_answers
  have g : GoodMD (nmD D0 st) := good_nm g0 hst hln
  have hm : M7At K H q (nmD D0 st) := hm
  have n3 : (nmD D0 st).n ≤ 3 := g0.n3
  generalize nmD D0 st = D at g hm n3 hu k
  clear g0 hst hln
  obtain ⟨ss, ee, yy, kt, hq, hss, hkt, hee, hyy⟩ := hm
  have eab : (loopD D).ab = D.s := g.srt
  have hus : ∀ c ∈ u, c ∈ D.s := fun c hc => by rw [← eab]; exact hu.2.2 c hc
  have ul := hu.2.1
  refine s_seq (s_asg (s_var (v := .ref q) rfl (s_gTup hq rfl (s_gCons (s_gName (s_gCons (s_gName (s_gCons (s_gName (s_gCons (s_gName (s_gCons (s_gName (s_gNil ?_))))))))))))))
  refine s_seq (s_par (s_cons (s_c (s_cons (s_lst (s_nil (s_alloc (by decide) fun fl H1 nf e1 hf => s_nil (s_pair ?_))))))))
  show tSeq _ _ _ [some (.ref q), some (vS u), some (.int (N : Nat)), some (vS D.s), some (.int (D.n : Nat)), some (.ref ss), some (.ref ee), some (.ref yy), some (.int 0), some (.ref fl), none, none, none, none] _
  refine s_seq (s_for (s_rng1 (s_cons (s_var (v := .int (N : Nat)) rfl (s_nil (s_rng1i (by omega) ?_))))))
  rw [Int.toNat_natCast]
  have n1 := g.n1
  have o0 : D.nm.getD 0 [] = orb (loopD D) u 0 := by
    show D.nm.getD 0 [] = D.nm.headD []
    cases D.nm <;> rfl
  refine for_rng (fun i σ G => ∃ (j : Nat) (xs : List V) (x10 x11 x12 x13 : Option V), σ = [some (.ref q), some (vS u), some (.int (N : Nat)), some (vS D.s), some (.int (D.n : Nat)), some (.ref ss), some (.ref ee), some (.ref yy), some (.int (j : Nat)), some (.ref fl), x10, x11, x12, x13] ∧ j < D.n ∧ D.nm.getD j [] = orb (loopD D) u i ∧ Ex [] H G ∧ G fl = some (.lst xs) ∧ Tups K G xs (anL (loopD D) u i)) ⟨0, [], none, none, none, none, rfl, n1, o0, e1, hf, Tups.nil⟩ ?_ ?_
  · rintro i σ G hi ⟨j, xs, x10, x11, x12, x13, rfl, hj, oj, eG, hxs, Tx⟩
    refine s_gName (s_seq (s_asg (s_c (s_gName ?_))))
    rw [Int.zero_add]
    show tSeq _ _ _ [some (.ref q), some (vS u), some (.int (N : Nat)), some (vS D.s), some (.int (D.n : Nat)), some (.ref ss), some (.ref ee), some (.ref yy), some (.int (j : Nat)), some (.ref fl), some (.int (i : Nat)), some (.int 0), x12, x13] _
    have wk := walk_str (z := S u)
    have hsz : (S u).cps.size = u.length := by simp [S]
    rw [hsz] at wk
    refine s_seq (s_for (s_iStr (s_var (v := vS u) rfl (s_iStrS ?_))))
    refine for_run wk (fun l σ J => ∃ (j : Nat) (x12 x13 : Option V), σ = [some (.ref q), some (vS u), some (.int (N : Nat)), some (vS D.s), some (.int (D.n : Nat)), some (.ref ss), some (.ref ee), some (.ref yy), some (.int (j : Nat)), some (.ref fl), some (.int (i : Nat)), some (.int (run (loopD D) (orb (loopD D) u i) (u.take l)).2), x12, x13] ∧ j < D.n ∧ D.nm.getD j [] = (run (loopD D) (orb (loopD D) u i) (u.take l)).1 ∧ Ex [] G J) ⟨j, x12, x13, rfl, hj, oj, Ex.rfl⟩ (fun _ _ _ _ _ => trivial) ?_ ?_
    · rintro l y σ J J2 hl ⟨j, x12, x13, rfl, hj, oj, eJ⟩ ⟨rfl, c, hc, ev⟩
      have ev : y = vS [c] := ev
      subst ev
      have hc : u[l]? = some c := by simpa [S] using hc
      have hcm := hus c (List.mem_of_getElem? hc)
      have ht1 : u.take (l + 1) = u.take l ++ [c] := by rw [List.take_add_one, hc]; rfl
      have er : run (loopD D) (orb (loopD D) u i) (u.take (l + 1)) = stp (loopD D) (run (loopD D) (orb (loopD D) u i) (u.take l)) c := by
        unfold run
        rw [ht1, List.foldl_append]
        rfl
      refine s_gName ?_
      show tSeq _ _ _ [some (.ref q), some (vS u), some (.int (N : Nat)), some (vS D.s), some (.int (D.n : Nat)), some (.ref ss), some (.ref ee), some (.ref yy), some (.int (j : Nat)), some (.ref fl), some (.int (i : Nat)), some (.int (run (loopD D) (orb (loopD D) u i) (u.take l)).2), some (vS [c]), x13] _
      refine s_seq (s_asg (s_dget (s_var (v := .ref ss) rfl (s_tup (s_cons (s_var (v := .int (j : Nat)) rfl (s_cons (s_var (v := vS [c]) rfl (s_nil (s_alloc (by show 2 ≤ sizeLine; decide) fun k0 J3 nk0 e5 z5 => ?_))))))))))
      have e05 := eG.trans (eJ.trans e5)
      refine s_step7 (e05.get0 hss) (step_ex e05 hkt) hj hcm z5 fun p hp => ?_
      refine s_gTup hp rfl (s_gCons (s_gName (s_gCons (s_gName (s_gNil ?_)))))
      refine s_asg (s_op (s_var (v := .int (run (loopD D) (orb (loopD D) u i) (u.take l)).2) rfl (s_var (v := .int (D.T j c).2) rfl (s_addI (s_gName ?_)))))
      have ts := tb_D g hj hcm
      have e1 : (run (loopD D) (orb (loopD D) u i) (u.take (l + 1))).1 = D.nm.getD (D.T j c).1 [] := by
        rw [er]
        show ((loopD D).tb (run (loopD D) (orb (loopD D) u i) (u.take l)).1 c).1 = _
        rw [← oj, ts]
      have e2 : (run (loopD D) (orb (loopD D) u i) (u.take (l + 1))).2 = (run (loopD D) (orb (loopD D) u i) (u.take l)).2 + (D.T j c).2 := by
        rw [er]
        show _ + ((loopD D).tb (run (loopD D) (orb (loopD D) u i) (u.take l)).1 c).2 = _
        rw [← oj, ts]
      refine ⟨(D.T j c).1, some (vS [c]), some (.int (D.T j c).2), ?_, (g.T j hj c hcm).1, e1.symm, eJ.trans e5⟩
      rw [e2]
      rfl
    · rintro σ J ⟨j, x12, x13, rfl, hj, oj, eJ⟩
      rw [List.take_length] at oj ⊢
      have e0J := eG.trans eJ
      obtain ⟨es, pe, f1, f2, f3⟩ := end_at (end_ex e0J hee) hj
      refine s_seq (s_asg (s_op (s_var (v := .ref ee) rfl (s_var (v := .int (j : Nat)) rfl (s_ixL (SqL.of f1) f2 ?_)))))
      refine s_gTup f3 rfl (s_gCons (s_gName (s_gCons (s_gName (s_gNil ?_)))))
      show tDrop _ _ [some (.ref q), some (vS u), some (.int (N : Nat)), some (vS D.s), some (.int (D.n : Nat)), some (.ref ss), some (.ref ee), some (.ref yy), some (.int ((D.En j).1 : Nat)), some (.ref fl), some (.int (i : Nat)), some (.int (run (loopD D) (orb (loopD D) u i) u).2), x12, some (.int (D.En j).2)] _
      have hb := (g.En j hj).1
      refine s_drop (s_bm (s_var (v := .ref fl) rfl (s_tyL (eJ.get0 hxs) (s_cons (s_tup (s_cons (s_op (s_var (v := .int (run (loopD D) (orb (loopD D) u i) u).2) rfl (s_var (v := .int (D.En j).2) rfl (s_addI ?_))))))))))
      refine s_cons (s_op (s_var (v := .ref yy) rfl (s_var (v := .int ((D.En j).1 : Nat)) rfl (s_ixL (v := .bl (decide ((D.En j).1 ∈ D.ys))) (SqL.of (e0J.get0 hyy)) (atI_of (by omega) (by rw [Int.toNat_natCast, List.getElem?_map, List.getElem?_range hb]; rfl)) (s_nil (s_alloc (by show 2 ≤ sizeLine; decide) fun p4 J4 np4 e6 z6 => s_nil ?_))))))
      have lx4 : xs.length ≤ 200 := by
        rw [Tx.1]
        unfold anL
        rw [List.length_map, List.length_range]
        omega
      refine s_append (e6.get0 (eJ.get0 hxs)) (Nat.lt_of_le_of_lt lx4 (by decide)) fun J5 e7 z7 => ?_
      have es := en_D g hj
      have o1 : orb (loopD D) u (i + 1) = D.nm.getD (D.En j).1 [] := by
        show ((loopD D).en (run (loopD D) (orb (loopD D) u i) u).1).1 = _
        rw [← oj, es]
      have c1 : cnt (loopD D) u i = (run (loopD D) (orb (loopD D) u i) u).2 + (D.En j).2 := by
        show (run (loopD D) (orb (loopD D) u i) u).2 + ((loopD D).en (run (loopD D) (orb (loopD D) u i) u).1).2 = _
        rw [← oj, es]
      have nf0 : H fl = none := nf
      refine ⟨(D.En j).1, xs ++ [.ref p4], _, _, _, _, rfl, hb, o1.symm, Ex.drop nf0 (e0J.trans e6) e7, z7, ?_⟩
      rw [anL_succ]
      refine Tups.snoc (tups_lst7 (e6.get0 (eJ.get0 hxs)) e7 (Tx.ex0 (eJ.trans e6))) (sqT_lst (e6.get0 (eJ.get0 hxs)) e7 (SqT.of ?_))
      rw [z6, c1]
      have ed : decide (orb (loopD D) u (i + 1) ∈ (loopD D).ok) = decide ((D.En j).1 ∈ D.ys) := by
        rw [Bool.eq_iff_iff, decide_eq_true_iff, decide_eq_true_iff, o1]
        exact ok_iff g hb
      rw [ed]
  · rintro σ G ⟨j, xs, x10, x11, x12, x13, rfl, hj, oj, eG, hxs, Tx⟩
    exact s_ret (s_var rfl (k fl G nf eG ⟨xs, hxs, Tx⟩))
theorem pure_law7_answer (h : sp_law7_answer K vs H Q E) : t_law7_answer K (E1 Q) (start ["_law_model_here", "_law_word", "_law_lap_here"] vs) H := by
  obtain ⟨q, u, i, rfl, D, st, hm, g0, hst, hln, hu, h1, h99, k⟩ := h
  show t_law7_answer K (E1 Q) [some (.ref q), some (vS u), some (.int i)] H
  unfold t_law7_answer
  have g : GoodMD (nmD D st) := good_nm g0 hst hln
  obtain ⟨ss, ee, yy, kt, hq, hss, hkt, hee, hyy⟩ := id hm
  have lst : (loopD (nmD D st)).st.length = D.n := hln
  obtain ⟨r1, r2, r3, r4⟩ := near_ok (loopD_good g) hu.2.2 (by rw [lst]; exact g0.n3) h1 h99
  rw [lst] at r1 r2 r3 r4
  obtain ⟨N, eN⟩ := Int.eq_ofNat_of_zero_le (show 0 ≤ near7 i D.n by omega)
  rw [eN] at r1 r2 r3 r4
  rw [Int.toNat_natCast] at r3 r4
  refine s_ret (s_op (s_call (s_cons (s_var (v := .ref q) rfl (s_cons (s_var (v := vS u) rfl (s_cons (s_call (s_cons (s_var (v := .int i) rfl (s_cons (s_op (s_var (v := .ref q) rfl (s_c (s_ixT hq (atI_of (by decide) rfl) (s_nil ?_))))))))))))))))
  refine ⟨i, D.n, rfl, g0.n1, g0.n3, fun G e => s_nil ?_⟩
  rw [eN]
  refine ⟨q, u, N, rfl, D, st, ?_, g0, hst, hln, hu, by omega, fun p G2 np e2 ⟨xs, hxs, Tx⟩ => ?_⟩
  · exact ⟨ss, ee, yy, kt, sq7 e hq, e.get0 hss, step_ex e hkt, end_ex e hee, e.get0 hyy⟩
  have lx : xs.length = N := by rw [Tx.1]; simp
  obtain ⟨pa, hpa, spa⟩ := Tx.2 (N - 1) _ [V.int (cnt (loopD (nmD D st)) u (N - 1)), .bl (decide (orb (loopD (nmD D st)) u (N - 1 + 1) ∈ (loopD (nmD D st)).ok))] (List.getElem?_eq_getElem (by omega)) (by rw [List.getElem?_map, List.getElem?_range (by omega)]; rfl)
  have ix : atI xs (-1) = some (V.ref pa) := atI_last7 (by
    rw [lx, ← hpa]
    exact List.getElem?_eq_getElem (by omega))
  refine s_un (s_c (s_negI (s_ixL (SqL.of hxs) ix (k pa G2 (e.trans e2) ?_))))
  unfold ansM
  rw [show N - 1 + 1 = N by omega, r3, r4] at spa
  exact spa
end
end WB
namespace WB
open PySem PySem.Spec PyProof.Rows L2
def t_law7_due (K : PySem.W.Frag) : TS :=
  (tSeq (tIfS (tOr (tNot (tB (tCB (rIsi K) (tCons (tVar 2) (tCons (tC (.ty "tuple")) tNil))))) (tOr (tTest (tOp rNe (tCB (rLenV K) (tCons (tVar 2) tNil)) (tC (.int 3)))) (tOr (tNot (tB (tCB (rIsi K) (tCons (tVar 3) (tCons (tC (.ty "tuple")) tNil))))) (tTest (tOp rGtI (tCB (rLenV K) (tCons (tVar 3) tNil)) (tC (.int 0))))))) (tRet (tC (.bl false))) tNext)
  (tSeq (tAsg (tVar 2) (gTup K 3 (gCons (gName 4) (gCons (gName 5) (gCons (gName 6) gNil)))))
  (tSeq (tIfS (tOr (tNot (tB (tCall (sp_law7_is_word K) [] E0 (tCons (tVar 4) tNil)))) (tOr (tNot (tB (tCall (sp_law7_is_word K) [] E0 (tCons (tVar 5) tNil)))) (tNot (tB (tCall (sp_law7_is_lap K) [] E0 (tCons (tVar 6) tNil)))))) (tRet (tC (.bl false))) tNext)
  (tSeq (tIfS (tOr (tNot (tB (tCall (sp_law7_turns K) [] E0 (tCons (tVar 4) (tCons (tVar 5) tNil))))) (tNot (tB (tCall (sp_law7_is_ring K) [] E0 (tCons (tVar 4) (tCons (tVar 1) tNil)))))) (tRet (tC (.bl false))) tNext)
  (tRet (tOp (rNeD K) (tCall (sp_law7_answer K) [] E0 (tCons (tVar 0) (tCons (tVar 4) (tCons (tVar 6) tNil)))) (tCall (sp_law7_answer K) [] E0 (tCons (tVar 0) (tCons (tVar 5) (tCons (tVar 6) tNil))))))))))
section
variable {K : PySem.W.Frag} {w : World} {vs : List V} {H H' : Hp} {Q : VK} {E : XK} {a : Addr} {v : V} {m : List Addr} {D : MD} {st : List (List Nat)} {M : LM} {u : List Nat}
theorem M7At.ex0 {q : Addr} (e : Ex [] H H') (h : M7At K H q D) : M7At K H' q D := by
  obtain ⟨ss, ee, yy, kt, h1, h2, h3, h4, h5⟩ := h
  exact ⟨ss, ee, yy, kt, sq7 e h1, e.get0 h2, step_ex e h3, end_ex e h4, e.get0 h5⟩
theorem dif_iff {M : LM} {ps : List (List Nat)} {u t : List Nat} {i : Int} (wu : isWord u LET = true) (wt : isWord t LET = true) (pu : plain u) (pt : plain t) (ci : 1 ≤ i ∧ i ≤ 99) (cc : closesB u ps = true) (ct : leastT u = leastT t) : Dif7 M ps [vS u, vS t, .int i] true ↔ ansM M u i ≠ ansM M t i := by
  constructor
  · rintro ⟨_, u', t', i', e, hu, ht, _, _, _, _, h⟩
    have z1 := vS_inj pu (plain_word hu) (List.cons.inj e).1
    have z2 := vS_inj pt (plain_word ht) (List.cons.inj (List.cons.inj e).2).1
    have z3 := V.int.inj (List.cons.inj (List.cons.inj (List.cons.inj e).2).2).1
    subst z1 z2 z3
    exact h
  · intro h
    exact ⟨rfl, u, t, i, rfl, wu, wt, ci.1, ci.2, cc, ct, h⟩
theorem kitB_tuple7 {n : String} (h : n ∈ KD) (hn : n ≠ "tuple") : kitB n "tuple" = some false := by
  simp only [KD, List.mem_cons, List.not_mem_nil, or_false] at h
  rcases h with rfl | rfl | rfl | rfl | rfl | rfl | rfl
  all_goals first | (exact absurd rfl hn) | decide +kernel
theorem pure_law7_due (h : sp_law7_due K vs H Q E) : t_law7_due K (E1 Q) (start ["_law_model_here", "_law_pairs_here", "_law_rest", "_law_paper", "_law_one", "_law_other", "_law_lap_here"] vs) H := by
  obtain ⟨q, pa, v, c, rfl, D, st, ps, rest, pe, hm, g0, hst, hln, hpa, lps, hps, hr, hc, k⟩ := h
  show t_law7_due K (E1 Q) [some (.ref q), some (.ref pa), some v, some c, none, none, none] H
  unfold t_law7_due
  have g : GoodMD (nmD D st) := good_nm g0 hst hln
  have eab : (loopD (nmD D st)).ab = D.s := g.srt
  have no : ∀ {G : Hp} {x4 x5 x6 : Option V}, Ex [] H G → ¬ Dif7 (loopD (nmD D st)) ps rest pe → tRet (tC (.bl false)) (E1 Q) [some (.ref q), some (.ref pa), some v, some c, x4, x5, x6] G := fun {G _ _ _} e n => s_ret (s_c (k false G e (Iff.intro (fun z => Bool.noConfusion z) fun z => absurd z n)))
  refine s_seq (s_ifS (s_or (s_not (s_tB (s_cb (s_cons (s_var (v := v) rfl (s_cons (s_c (s_nil ?_))))))))))
  rcases hr with ⟨p, rfl, hp, l10, hel⟩ | ⟨rfl, hv, n, hn, hkn⟩
  rotate_left
  · refine s_isiK hkn (b := false) (kitB_tuple7 hkn.2 hn) (s_blQ (s_T rfl (s_T rfl (no Ex.rfl ?_))))
    rintro ⟨_, u, t, i, e, _⟩
    cases e
  refine s_isiK (Kd.tup hp) (b := true) (by decide +kernel) (s_blQ (s_F rfl ?_))
  refine s_or (s_test (s_op (s_cb (s_cons (s_var (v := .ref p) rfl (s_nil (s_lenT hp (s_c (s_neI (s_blQ ?_))))))))))
  by_cases c3 : rest.length = 3
  rotate_left
  · refine s_nTd (by omega) (s_T rfl (no Ex.rfl ?_))
    rintro ⟨_, u, t, i, e, _⟩
    rw [e] at c3
    exact c3 rfl
  refine s_nFd (by omega) ?_
  obtain ⟨v1, v2, v3, rfl⟩ : ∃ v1 v2 v3, rest = [v1, v2, v3] := by
    match rest, c3 with
    | [v1, v2, v3], _ => exact ⟨v1, v2, v3, rfl⟩
  refine s_or (s_not (s_tB (s_cb (s_cons (s_var (v := c) rfl (s_cons (s_c (s_nil ?_))))))))
  rcases hc H Ex.rfl with ⟨pp, xs, rfl, hpp, epe, lx⟩ | ⟨epe, n, hn, hkn⟩
  rotate_left
  · refine s_isiK hkn (b := false) (kitB_tuple7 hkn.2 hn) (s_blQ (s_T rfl (s_T rfl (no Ex.rfl ?_))))
    rintro ⟨z, _⟩
    rw [epe] at z
    cases z
  refine s_isiK (Kd.tup hpp) (b := true) (by decide +kernel) (s_blQ (s_F rfl ?_))
  refine s_test (s_op (s_cb (s_cons (s_var (v := .ref pp) rfl (s_nil (s_lenT hpp (s_c (s_gtI (s_blQ ?_)))))))))
  by_cases cl : xs.length = 0
  rotate_left
  · refine s_Td (by omega) (no Ex.rfl ?_)
    rintro ⟨z, _⟩
    rw [epe, decide_eq_false cl] at z
    cases z
  have epe : pe = true := by rw [epe, decide_eq_true cl]
  subst epe
  refine s_Fd (by omega) (s_next ?_)
  refine s_seq (s_asg (s_var (v := .ref p) rfl (s_gTup hp rfl (s_gCons (s_gName (s_gCons (s_gName (s_gCons (s_gName (s_gNil ?_))))))))))
  show tSeq _ _ _ [some (.ref q), some (.ref pa), some (.ref p), some (.ref pp), some v1, some v2, some v3] _
  have x1 := hel v1 (by simp)
  have x2 := hel v2 (by simp)
  have x3 := hel v3 (by simp)
  refine s_seq (s_ifS (s_or (s_not (s_tB (s_call (s_cons (s_var (v := v1) rfl (s_nil ?_))))))))
  by_cases c1 : ∃ l, v1 = vS l ∧ l.length ≤ 10000 ∧ plain l
  rotate_left
  · obtain ⟨n, hn, hk1⟩ := x1.kd c1
    refine ⟨v1, rfl, .inr ⟨n, hk1 H Ex.rfl, hn, s_blQ (s_T rfl (s_T rfl (no Ex.rfl ?_)))⟩⟩
    rintro ⟨_, u, _, _, e, hu, _⟩
    have e1 : v1 = vS u := (List.cons.inj e).1
    exact c1 ⟨u, e1, by have := isWord_len hu; omega, plain_word hu⟩
  obtain ⟨u, rfl, lu, pu⟩ := c1
  refine ⟨vS u, rfl, .inl ⟨u, rfl, lu, pu, fun G1 e1 => s_blQ ?_⟩⟩
  by_cases wu : isWord u LET = true
  rotate_left
  · rw [Bool.eq_false_iff.mpr wu]
    refine s_T rfl (s_T rfl (no e1 ?_))
    rintro ⟨_, u', _, _, e, hu, _⟩
    have := vS_inj pu (plain_word hu) (List.cons.inj e).1
    subst this
    exact wu hu
  rw [wu]
  refine s_F rfl (s_or (s_not (s_tB (s_call (s_cons (s_var (v := v2) rfl (s_nil ?_)))))))
  by_cases c2 : ∃ l, v2 = vS l ∧ l.length ≤ 10000 ∧ plain l
  rotate_left
  · obtain ⟨n, hn, hk1⟩ := x2.kd c2
    refine ⟨v2, rfl, .inr ⟨n, hk1 G1 e1, hn, s_blQ (s_T rfl (s_T rfl (no e1 ?_)))⟩⟩
    rintro ⟨_, _, u', _, e, _, hu, _⟩
    have e2 : v2 = vS u' := (List.cons.inj (List.cons.inj e).2).1
    exact c2 ⟨u', e2, by have := isWord_len hu; omega, plain_word hu⟩
  obtain ⟨t, rfl, lt, pt⟩ := c2
  refine ⟨vS t, rfl, .inl ⟨t, rfl, lt, pt, fun G2 e2 => s_blQ ?_⟩⟩
  have e02 := e1.trans e2
  by_cases wt : isWord t LET = true
  rotate_left
  · rw [Bool.eq_false_iff.mpr wt]
    refine s_T rfl (s_T rfl (no e02 ?_))
    rintro ⟨_, _, u', _, e, _, hu, _⟩
    have := vS_inj pt (plain_word hu) (List.cons.inj (List.cons.inj e).2).1
    subst this
    exact wt hu
  rw [wt]
  refine s_F rfl (s_not (s_tB (s_call (s_cons (s_var (v := v3) rfl (s_nil ?_))))))
  by_cases c3 : ∃ i : Int, v3 = .int i
  rotate_left
  · obtain ⟨n, hn, hk1⟩ := x3.kdI c3
    refine ⟨v3, rfl, .inr ⟨n, hk1 G2 e02, hn, s_blQ (s_T rfl (no e02 ?_))⟩⟩
    rintro ⟨_, _, _, i, e, _⟩
    exact c3 ⟨i, (List.cons.inj (List.cons.inj (List.cons.inj e).2).2).1⟩
  obtain ⟨i, rfl⟩ := c3
  refine ⟨.int i, rfl, .inl ⟨i, rfl, s_blQ ?_⟩⟩
  by_cases ci : 1 ≤ i ∧ i ≤ 99
  rotate_left
  · rw [decide_eq_false ci]
    refine s_T rfl (no e02 ?_)
    rintro ⟨_, _, _, i', e, _, _, h1, h2, _⟩
    have := V.int.inj (List.cons.inj (List.cons.inj (List.cons.inj e).2).2).1
    subst this
    exact ci ⟨h1, h2⟩
  rw [decide_eq_true ci]
  refine s_F rfl (s_next ?_)
  have une := isWord_ne wu
  have tne := isWord_ne wt
  refine s_seq (s_ifS (s_or (s_not (s_tB (s_call (s_cons (s_var (v := vS u) rfl (s_cons (s_var (v := vS t) rfl (s_nil ?_))))))))))
  refine ⟨u, t, rfl, une, tne, (isWord_len wu).2, (isWord_len wt).2, s_blQ ?_⟩
  by_cases ct : leastT u = leastT t
  rotate_left
  · rw [decide_eq_false ct]
    refine s_T rfl (s_T rfl (no e02 ?_))
    rintro ⟨_, u', t', _, e, hu, ht, _, _, _, h, _⟩
    have z1 := vS_inj pu (plain_word hu) (List.cons.inj e).1
    have z2 := vS_inj pt (plain_word ht) (List.cons.inj (List.cons.inj e).2).1
    subst z1 z2
    exact ct h
  rw [decide_eq_true ct]
  refine s_F rfl (s_not (s_tB (s_call (s_cons (s_var (v := vS u) rfl (s_cons (s_var (v := .ref pa) rfl (s_nil ?_))))))))
  refine ⟨u, pa, rfl, ps, une, (isWord_len wu).2, e02.get0 hpa, lps, fun G3 e3 => s_blQ ?_⟩
  have e03 := e02.trans e3
  by_cases cc : closesB u ps = true
  rotate_left
  · rw [Bool.eq_false_iff.mpr cc]
    refine s_T rfl (no e03 ?_)
    rintro ⟨_, u', _, _, e, hu, _, _, _, h, _⟩
    have := vS_inj pu (plain_word hu) (List.cons.inj e).1
    subst this
    exact cc h
  rw [cc]
  refine s_F rfl (s_next ?_)
  have iu : inAb (loopD (nmD D st)) u := inAb_of wu (fun q hq c hc => by rw [eab]; exact hps q hq c hc) cc
  have it := inAb_turn iu tne ct
  refine s_ret (s_op (s_call (s_cons (s_var (v := .ref q) rfl (s_cons (s_var (v := vS u) rfl (s_cons (s_var (v := .int i) rfl (s_nil ?_)))))))))
  refine ⟨q, u, i, rfl, D, st, hm.ex0 e03, g0, hst, hln, iu, ci.1, ci.2, fun p1 G4 e4 h4 => ?_⟩
  refine s_call (s_cons (s_var (v := .ref q) rfl (s_cons (s_var (v := vS t) rfl (s_cons (s_var (v := .int i) rfl (s_nil ?_)))))))
  refine ⟨q, t, i, rfl, D, st, hm.ex0 (e03.trans e4), g0, hst, hln, it, ci.1, ci.2, fun p2 G5 e5 h5 => ?_⟩
  refine s_neIB7 (sq7 e5 h4) h5 (k _ G5 (e03.trans (e4.trans e5)) ?_)
  rw [dif_iff wu wt pu pt ci cc ct, Bool.not_eq_true', Bool.and_eq_false_iff, ne_eq, Prod.ext_iff, not_and]
  constructor
  · rintro (h | h) h1 h2
    · rw [h1] at h; simp at h
    · rw [h2] at h; simp at h
  · intro h
    by_cases z : (ansM (loopD (nmD D st)) u i).1 = (ansM (loopD (nmD D st)) t i).1
    · right
      exact beq_eq_false_iff_ne.mpr (h z)
    · left
      exact beq_eq_false_iff_ne.mpr z
end
end WB
namespace WB
open PySem PySem.Spec PyProof.Rows L2
def t_law7_pairs (K : PySem.W.Frag) : TS :=
  (tSeq (tPar 2 3 (tCons (tCall (sp_law7_pick K) [] E0 (tCons (tVar 0) (tCons (tC (.int 3)) tNil))) (tCons (tLst tNil) tNil)))
  (tSeq (tFor (iStr (tVar 1)) (gName 4) (tFor (iStr (tVar 1)) (gName 5) (tIfS (tOr (tTest (tOp rEq (tVar 2) (tC (.int 0)))) (tTest (tOp rGtI (tCall (sp_law7_pick K) [] E0 (tCons (tVar 0) (tCons (tC (.int 3)) tNil))) (tC (.int 0))))) (tDrop (tBM K "list" rAppend (tVar 3) (tCons (tOp rAddS (tVar 4) (tVar 5)) tNil))) tNext)))
  (tRet (tVar 3))))
section
variable {K : PySem.W.Frag} {w : World} {vs : List V} {H H' : Hp} {Q : VK} {E : XK} {a : Addr} {v : V} {m : List Addr} {D : MD} {M : LM} {u s : List Nat}
theorem ones_map : ∀ ls : List (List Nat), (∀ x ∈ ls, x.length = 1) → ls = ls.flatten.map fun c => [c]
  | [], _ => rfl
  | x :: ls, h => by
    have hx := h x List.mem_cons_self
    obtain ⟨c, rfl⟩ : ∃ c, x = [c] := by
      match x, hx with
      | [c], _ => exact ⟨c, rfl⟩
    have ih := ones_map ls fun y hy => h y (List.mem_cons_of_mem _ hy)
    rw [List.flatten_cons, List.map_append, ← ih]
    rfl
theorem asc_of (h : sgn s = s) (nd : s.Nodup) : s.Pairwise (· < ·) := by
  have h1 : (srt (s.map fun c => [c])) = s.map fun c => [c] := by
    have e := ones_map (srt (s.map fun c => [c])) fun x hx => by
      obtain ⟨c, _, rfl⟩ := List.mem_map.mp ((srt_perm _).mem_iff.mp hx)
      rfl
    rw [e]
    exact congrArg (List.map fun c => [c]) h
  have h2 := srt_pair (s.map fun c => [c])
  rw [h1, List.pairwise_map] at h2
  refine List.Pairwise.imp₂ (fun {x y} h3 h4 => ?_) h2 nd
  have h5 : x < y ∨ x = y ∧ ([] : List Nat) ≤ [] := List.cons_le_cons_iff.mp h3
  rcases h5 with h5 | h5
  · exact h5
  · exact absurd h5.1 h4
theorem prs_asc (h : s.Pairwise (· < ·)) : (prs s).Pairwise (· ≤ ·) := by
  unfold prs
  rw [List.pairwise_flatMap]
  refine ⟨fun x _ => List.pairwise_map.mpr (h.imp fun {b c} hbc => ?_), h.imp fun {x y} hxy => fun p hp q hq => ?_⟩
  · rw [List.cons_le_cons_iff]
    refine .inr ⟨rfl, ?_⟩
    rw [List.cons_le_cons_iff]
    exact .inl hbc
  · obtain ⟨b, _, rfl⟩ := List.mem_map.mp hp
    obtain ⟨c, _, rfl⟩ := List.mem_map.mp hq
    rw [List.cons_le_cons_iff]
    exact .inl hxy
theorem prs_nd (h : s.Pairwise (· < ·)) : (prs s).Nodup := by
  unfold prs
  show List.Pairwise _ _
  rw [List.pairwise_flatMap]
  refine ⟨fun x _ => List.pairwise_map.mpr (h.imp fun {b c} hbc e => ?_), h.imp fun {x y} hxy => fun p hp q hq e => ?_⟩
  · have := (List.cons.inj (List.cons.inj e).2).1
    omega
  · obtain ⟨b, _, rfl⟩ := List.mem_map.mp hp
    obtain ⟨c, _, rfl⟩ := List.mem_map.mp hq
    have := (List.cons.inj e).1
    omega
theorem row_of {ps : List (List Nat)} (g : goodS s) (h : sgn s = s) (hs : ps.Sublist (prs s)) : goodRow s ps := by
  have as := asc_of h g.2.2
  refine ⟨g, h, ⟨(prs_nd as).sublist hs, fun p hp => ?_⟩, srt_id ((prs_asc as).sublist hs), ?_⟩
  · obtain ⟨x, hx, hp⟩ := List.mem_flatMap.mp (hs.subset hp)
    obtain ⟨y, hy, rfl⟩ := List.mem_map.mp hp
    refine ⟨rfl, fun c hc => ?_⟩
    simp only [List.mem_cons, List.not_mem_nil, or_false] at hc
    rcases hc with rfl | rfl
    · exact hx
    · exact hy
  · have h1 := hs.length_le
    rw [prs_len] at h1
    have : s.length * s.length ≤ 4 * 4 := Nat.mul_le_mul g.2.1 g.2.1
    omega
theorem pure_law7_pairs (h : sp_law7_pairs K vs H Q E) : t_law7_pairs K (E1 Q) (start ["_law_purse_here", "_law_signs_here", "_law_way", "_law_found", "_law_one", "_law_other"] vs) H := by
  obtain ⟨a, s, rfl, hp, hs, hsrt, k⟩ := h
  show t_law7_pairs K (E1 Q) [some (.ref a), some (vS s), none, none, none, none] H
  unfold t_law7_pairs
  have hsl := hs.2.1
  refine s_seq (s_par (s_cons (s_call (s_cons (s_var (v := .ref a) rfl (s_cons (s_c (s_nil ?_))))))))
  refine u_pick7 (by decide) (by decide) hp fun wy H1 w0 w1 e1 p1 => s_cons (s_lst (s_nil (s_alloc (by decide) fun fl H2 nf e2 hf => s_nil (s_pair ?_))))
  show tSeq _ _ _ [some (.ref a), some (vS s), some (.int wy), some (.ref fl), none, none] _
  have fa : fl ≠ a := fun z => p1.there (z ▸ nf)
  have nf0 : H fl = none := free_pool p1 e1 nf
  have p2 := p1.ex e2 (by simp)
  have wk := walk_str (z := S s)
  have hsz : (S s).cps.size = s.length := by simp [S]
  rw [hsz] at wk
  refine s_seq (s_for (s_iStr (s_var (v := vS s) rfl (s_iStrS ?_))))
  have bnd : ∀ {i : Nat} {x : List (List Nat)} {ps : List (List Nat)}, ps.Sublist (((s.take i).flatMap fun a => s.map fun b => [a, b]) ++ x) → x.length ≤ 4 → ps.length ≤ 30 := fun {i x ps} hs' hx => by
    have h1 := hs'.length_le
    rw [List.length_append] at h1
    have h2 : ((s.take i).flatMap fun a => s.map fun b => [a, b]).length ≤ 4 * 4 := by
      rw [List.length_flatMap]
      simp only [List.length_map, List.map_const', List.sum_replicate_nat]
      rw [List.length_take]
      exact Nat.mul_le_mul (by omega) (by omega)
    omega
  refine for_run wk (fun i σ G => ∃ (ps : List (List Nat)) (x4 x5 : Option V), σ = [some (.ref a), some (vS s), some (.int wy), some (.ref fl), x4, x5] ∧ Ex [a] H G ∧ PoolAt G a ∧ G fl = some (.lst (ps.map vS)) ∧ ps.Sublist ((s.take i).flatMap fun a => s.map fun b => [a, b])) ⟨[], none, none, rfl, e1.trans e2.wide, p2, hf, List.Sublist.refl _⟩ (fun _ _ _ _ _ => trivial) ?_ ?_
  · rintro i y σ G G2 hi ⟨ps, x4, x5, rfl, eG, pG, hps, sps⟩ ⟨rfl, c, hc, ev⟩
    have ev : y = vS [c] := ev
    subst ev
    have hc : s[i]? = some c := by simpa [S] using hc
    have ht1 : s.take (i + 1) = s.take i ++ [c] := by rw [List.take_add_one, hc]; rfl
    refine s_gName (s_for (s_iStr (s_var (v := vS s) rfl (s_iStrS ?_))))
    refine for_run wk (fun j σ G => ∃ (ps : List (List Nat)) (x5 : Option V), σ = [some (.ref a), some (vS s), some (.int wy), some (.ref fl), some (vS [c]), x5] ∧ Ex [a] H G ∧ PoolAt G a ∧ G fl = some (.lst (ps.map vS)) ∧ ps.Sublist (((s.take i).flatMap fun a => s.map fun b => [a, b]) ++ (s.take j).map fun b => [c, b])) ⟨ps, x5, rfl, eG, pG, hps, by simpa using sps⟩ (fun _ _ _ _ _ => trivial) ?_ ?_
    · rintro j y σ J J2 hj ⟨ps, x5, rfl, eJ, pJ, hps, sps⟩ ⟨rfl, d, hd, ev⟩
      have ev : y = vS [d] := ev
      subst ev
      have hd : s[j]? = some d := by simpa [S] using hd
      have hd1 : s.take (j + 1) = s.take j ++ [d] := by rw [List.take_add_one, hd]; rfl
      have l30 := bnd sps (by rw [List.length_map, List.length_take]; omega)
      have skip : ∀ {G : Hp}, Ex [a] H G → PoolAt G a → G fl = some (.lst (ps.map vS)) → ∃ (ps : List (List Nat)) (x5 : Option V), [some (.ref a), some (vS s), some (.int wy), some (.ref fl), some (vS [c]), some (vS [d])] = [some (.ref a), some (vS s), some (.int wy), some (.ref fl), some (vS [c]), x5] ∧ Ex [a] H G ∧ PoolAt G a ∧ G fl = some (.lst (ps.map vS)) ∧ ps.Sublist (((s.take i).flatMap fun a => s.map fun b => [a, b]) ++ (s.take (j + 1)).map fun b => [c, b]) := fun {G} e p h =>
        ⟨ps, _, rfl, e, p, h, by
          rw [hd1, List.map_append, ← List.append_assoc]
          exact sps.trans (List.sublist_append_left _ _)⟩
      have add : ∀ {G : Hp}, Ex [a] H G → PoolAt G a → G fl = some (.lst (ps.map vS)) → tDrop (tBM K "list" rAppend (tVar 3) (tCons (tOp rAddS (tVar 4) (tVar 5)) tNil)) ⟨fun σ G => ∃ (ps : List (List Nat)) (x5 : Option V), σ = [some (.ref a), some (vS s), some (.int wy), some (.ref fl), some (vS [c]), x5] ∧ Ex [a] H G ∧ PoolAt G a ∧ G fl = some (.lst (ps.map vS)) ∧ ps.Sublist (((s.take i).flatMap fun a => s.map fun b => [a, b]) ++ (s.take (j + 1)).map fun b => [c, b]), (E1 Q).rt, fun σ G => ∃ (ps : List (List Nat)) (x5 : Option V), σ = [some (.ref a), some (vS s), some (.int wy), some (.ref fl), some (vS [c]), x5] ∧ Ex [a] H G ∧ PoolAt G a ∧ G fl = some (.lst (ps.map vS)) ∧ ps.Sublist (((s.take i).flatMap fun a => s.map fun b => [a, b]) ++ s.map fun b => [c, b]), fun σ G => ∃ (ps : List (List Nat)) (x5 : Option V), σ = [some (.ref a), some (vS s), some (.int wy), some (.ref fl), some (vS [c]), x5] ∧ Ex [a] H G ∧ PoolAt G a ∧ G fl = some (.lst (ps.map vS)) ∧ ps.Sublist (((s.take i).flatMap fun a => s.map fun b => [a, b]) ++ (s.take (j + 1)).map fun b => [c, b])⟩ [some (.ref a), some (vS s), some (.int wy), some (.ref fl), some (vS [c]), some (vS [d])] G := fun {G} e p h => by
        refine s_drop (s_bm (s_var (v := .ref fl) rfl (s_tyL h (s_cons (s_op (s_var (v := vS [c]) rfl (s_var (v := vS [d]) rfl (s_addS (by rw [sizeLine_eq]; simp) (s_nil ?_)))))))))
        refine s_append h (Nat.lt_of_le_of_lt (m := 100) (by rw [List.length_map]; omega) (by decide)) fun G3 f3 h3 => ?_
        refine ⟨ps ++ [[c, d]], _, rfl, Ex.dropN nf0 e f3, p.ex f3 (by simpa using Ne.symm fa), by rw [h3, List.map_append]; rfl, ?_⟩
        rw [hd1, List.map_append, ← List.append_assoc]
        exact sps.append (List.Sublist.refl _)
      refine s_gName (s_ifS (s_or (s_test (s_op (s_var (v := .int wy) rfl (s_c (s_eqI (s_blQ (s_2 (fun _ => ?_) fun _ => ?_)))))))))
      · exact s_T rfl (add eJ pJ hps)
      · refine s_test (s_op (s_call (s_cons (s_var (v := .ref a) rfl (s_cons (s_c (s_nil ?_)))))))
        refine u_pick7 (by decide) (by decide) pJ fun r G3 r0 r1 e3 p3 => s_c (s_gtI (s_blQ ?_))
        have h3 := e3.get (by simpa using fa) hps
        refine s_2 (fun _ => add (eJ.trans e3) p3 h3) (fun _ => s_next (skip (eJ.trans e3) p3 h3))
    · rintro σ J ⟨ps, x5, rfl, eJ, pJ, hps, sps⟩
      refine ⟨ps, _, _, rfl, eJ, pJ, hps, ?_⟩
      rw [ht1, List.flatMap_append]
      simpa using sps
  · rintro σ G ⟨ps, x4, x5, rfl, eG, pG, hps, sps⟩
    rw [List.take_length] at sps
    exact s_ret (s_var (v := .ref fl) rfl (k ps fl G (row_of hs hsrt sps) nf0 eG pG hps))
end
end WB
namespace WB
open PySem PySem.Spec PyProof.Rows L2
local macro_rules | `(tactic| walk_at "lit") => `(tactic| first | exact lit_abc | exact lit_empty)
local macro_rules | `(tactic| walk_at "nm") => `(tactic| focus first | exact List.not_mem_nil | (simp only [List.mem_singleton]; first | assumption | (exact Ne.symm (by assumption)) | (intro hz; subst hz; simp_all; done)))
local macro_rules | `(tactic| walk_at "hp") => `(tactic| first | assumption | (apply Ex.get0 (by assumption); walk_at "hp") | (apply Ex.get (by assumption); (walk_at "nm"); (walk_at "hp")))
local macro_rules | `(tactic| walk_at "sq") => `(tactic| first | assumption | (apply SqL.of; walk_at "hp") | (apply Ex.sqL (by assumption); (walk_at "nm"); (walk_at "sq")))
local macro_rules | `(tactic| walk_at "sqt") => `(tactic| first | assumption | (apply SqT.of; walk_at "hp") | (apply Ex.sqT (by assumption); (walk_at "nm"); (walk_at "sqt")))
local macro_rules | `(tactic| walk_at "sz") => `(tactic| focus ((with_reducible refine Nat.le_trans (m := 100000) ?_ (by decide)); first | omega | (simp; done) | (simp; omega)))
local macro_rules | `(tactic| walk_at "mul") => `(tactic| first | exact Or.inr ⟨by omega, by omega⟩ | exact Or.inl ⟨by omega, by omega⟩)
local macro_rules | `(tactic| walk_at "pool") => `(tactic| first | assumption | (apply PoolAt.ex (by assumption); (walk_at "nm"); (walk_at "pool")))
local macro_rules | `(tactic| walk_at "ring") => `(tactic| first | assumption | (apply RingAt.ex (by assumption); (walk_at "nm"); (walk_at "ring")))
local macro_rules | `(tactic| walk_at "st") => `(tactic| first
  | with_reducible refine s_seq ?_
  | with_reducible refine s_asg ?_
  | with_reducible refine s_gName ?_
  | with_reducible refine s_ret ?_
  | with_reducible refine s_ifS ?_
  | with_reducible refine s_next ?_
  | with_reducible refine s_op ?_
  | ((with_reducible apply s_var); exact rfl)
  | ((with_reducible apply s_cS); (walk_at "lit"))
  | with_reducible refine s_c ?_
  | with_reducible refine s_cb ?_
  | with_reducible refine s_cons ?_
  | with_reducible refine s_nil ?_
  | with_reducible refine s_un ?_
  | with_reducible refine s_call ?_
  | with_reducible refine s_test ?_
  | with_reducible refine s_tB ?_
  | with_reducible refine s_blQ ?_
  | with_reducible refine s_not ?_
  | with_reducible refine s_and ?_
  | with_reducible refine s_or ?_
  | with_reducible refine s_andV ?_
  | with_reducible refine s_orV ?_
  | with_reducible refine s_notV ?_
  | with_reducible refine s_ifE ?_
  | with_reducible refine s_chain ?_
  | ((with_reducible refine s_T ?_ ?_); (with_reducible exact rfl))
  | with_reducible refine s_nT ?_
  | with_reducible refine s_nF ?_
  | ((with_reducible refine s_F ?_ ?_); (with_reducible exact rfl))
  | ((with_reducible refine s_T ?_ ?_); assumption)
  | ((with_reducible refine s_F ?_ ?_); assumption)
  | ((with_reducible refine s_nB ?_ ?_); assumption)
  | ((with_reducible refine s_nA ?_ ?_); assumption)
  | ((with_reducible refine s_Td ?_ ?_); omega)
  | ((with_reducible refine s_Fd ?_ ?_); omega)
  | ((with_reducible refine s_nTd ?_ ?_); omega)
  | ((with_reducible refine s_nFd ?_ ?_); omega)
  | with_reducible refine s_sfld ?_
  | with_reducible refine s_addI ?_
  | with_reducible refine s_subI ?_
  | ((with_reducible refine s_mulI ?_ ?_); (walk_at "mul"))
  | ((with_reducible refine s_divI ?_ ?_); exact ⟨by omega, by omega⟩)
  | ((with_reducible refine s_modI ?_ ?_); omega)
  | ((with_reducible refine s_powI ?_ ?_); exact ⟨by decide, by decide, by decide⟩)
  | with_reducible refine s_ltI ?_
  | with_reducible refine s_leI ?_
  | with_reducible refine s_gtI ?_
  | with_reducible refine s_geI ?_
  | with_reducible refine s_negI ?_
  | with_reducible refine s_absI ?_
  | with_reducible refine s_intI ?_
  | with_reducible refine s_min2 ?_
  | with_reducible refine s_max2 ?_
  | with_reducible refine s_eqI ?_
  | with_reducible refine s_neI ?_
  | with_reducible refine s_eqS ?_
  | with_reducible refine s_neS ?_
  | with_reducible refine s_inSg ?_
  | with_reducible refine s_notInSg ?_
  | ((with_reducible refine s_addS ?_ ?_); (walk_at "sz"))
  | ((with_reducible refine s_lenS ?_ ?_); (walk_at "sz"))
  | ((with_reducible apply s_lenL); (walk_at "sq"))
  | ((with_reducible apply s_lenT); (walk_at "sqt"))
  | ((with_reducible apply s_ixL); (walk_at "sq"); exact rfl)
  | ((with_reducible apply s_ixT); (walk_at "sqt"); exact rfl)
  | with_reducible refine s_gSub ?_
  | ((with_reducible apply s_setL); (walk_at "hp"); (exact rfl); (intro _ _ _))
  | ((with_reducible refine s_alloc ?_ ?_); (walk_at "sz"); (intro _ _ _ _ _))
  | ((with_reducible refine s_divmod ?_ ?_); (exact ⟨by omega, PyProof.noPylong_small (by omega)⟩); (intro _ _ _ _ _))
  | ((with_reducible apply s_gTup); (walk_at "sqt"); (exact rfl))
  | ((with_reducible apply s_gLst); (walk_at "sq"); (exact rfl))
  | with_reducible refine s_gCons ?_
  | with_reducible refine s_gNil ?_
  | with_reducible refine s_lc ?_
  | ((with_reducible apply s_cat); (walk_at "hp"); (walk_at "hp"); (walk_at "sz"); (intro _ _ _ _ _))
  | ((with_reducible apply s_slL); (walk_at "sq"); (intro _ _ _ _ _))
  | with_reducible refine s_for ?_
  | with_reducible refine s_rng1 ?_
  | ((with_reducible refine s_rng1i ?_ ?_); (constructor <;> omega))
  | with_reducible refine s_rng2 ?_
  | ((with_reducible refine s_rng2i ?_ ?_); (refine ⟨?_, ?_, ?_, ?_⟩ <;> omega))
  | with_reducible refine s_iStr ?_
  | with_reducible refine s_iStrS ?_
  | with_reducible refine s_iList ?_
  | ((with_reducible apply s_iListA); (walk_at "sq"))
  | with_reducible refine s_iTup ?_
  | ((with_reducible apply s_iTupA); (walk_at "sqt"))
  | with_reducible refine s_sl ?_
  | with_reducible refine s_noPart ?_
  | with_reducible refine s_part ?_
  | with_reducible refine s_int1 ?_
  | ((with_reducible refine s_slS ?_ ?_); (walk_at "sz"))
  | with_reducible refine s_tup ?_
  | with_reducible refine s_lst ?_
  | with_reducible refine s_par ?_
  | with_reducible refine s_pair ?_
  | with_reducible refine s_M1 ?_
  | with_reducible refine s_isStr ?_
  | with_reducible refine s_revS ?_
  | ((with_reducible refine s_revS1 ?_ ?_); (walk_at "sz"))
  | with_reducible refine s_fldE ?_
  | with_reducible refine s_propE ?_
  | ((with_reducible refine u_draw ?_ ?_ ?_ ?_); omega; omega; (walk_at "pool"); (intro _ _ _ _ _ _))
  | ((with_reducible refine u_pool ?_); (intro _ _ _ _ _))
  | with_reducible refine u_is_integer ?_
  | with_reducible refine s_isiII ?_
  | with_reducible refine s_isiIB ?_
  | with_reducible refine s_isiSS ?_
  | ((with_reducible apply u_fldRing); assumption; (walk_at "ring"))
  | ((with_reducible apply u_textP); (walk_at "ring"))
  | ((with_reducible apply u_strRing); (walk_at "ring"))
  | ((with_reducible apply u_eqRing); (walk_at "ring"); (walk_at "ring"))
  | ((with_reducible apply u_isiRing); assumption; (walk_at "ring"))
  | ((with_reducible refine u_is_word ?_ ?_); omega; (intro _ _))
  | ((with_reducible refine u_turnings ?_ ?_); omega; (intro _ _ _ _ _))
  | with_reducible refine s_makeE ?_
  | with_reducible refine s_methE ?_)
local macro_rules | `(tactic| walk_at "go") => `(tactic| repeat (walk_at "st"))
local macro_rules | `(tactic| walk_at "exs") => `(tactic| first | exact Ex.rfl | assumption | (apply Ex.snoc (by assumption); walk_at "exs") | (apply Ex.snocW (by assumption); walk_at "exs"))
local macro_rules | `(tactic| walk_at "st") => `(tactic| first
  | ((with_reducible refine u_pick7 ?_ ?_ ?_ ?_); omega; omega; (walk_at "pool"); (intro _ _ _ _ _ _))
  | ((with_reducible refine u_amount7 ?_ ?_); (walk_at "pool"); (intro _ _ _ _ _)))
def t_law7_words (K : PySem.W.Frag) : TS :=
  (tSeq (tPar 3 4 (tCons (tLst tNil) (tCons (tCB rListS (tCons (tVar 0) tNil)) tNil)))
  (tSeq (tFor (iRng1 (tCons (tVar 2) tNil)) (gName 5) (tSeq (tAsg (tOp rCat (tVar 3) (tLc (iList K (tVar 4)) (gName 7) (tTest (tOp (rIn K false) (tOp rAddS (tOp rIxS (tVar 7) (tUn rNegI (tC (.int 1)))) (tOp rIxS (tVar 7) (tC (.int 0)))) (tVar 1))) (tVar 7) [7])) (gName 3))
  (tSeq (tAsg (tLst tNil) (gName 6))
  (tSeq (tFor (iList K (tVar 4)) (gName 7) (tAsg (tOp rCat (tVar 6) (tLc (iStr (tVar 0)) (gName 8) (tTest (tOp (rIn K false) (tOp rAddS (tOp rIxS (tVar 7) (tUn rNegI (tC (.int 1)))) (tVar 8)) (tVar 1))) (tOp rAddS (tVar 7) (tVar 8)) [8])) (gName 6)))
  (tAsg (tVar 6) (gName 4))))))
  (tRet (tVar 3))))
section
variable {K : PySem.W.Frag} {w : World} {vs : List V} {H H' : Hp} {Q : VK} {E : XK} {a : Addr} {v : V} {m : List Addr} {D : MD} {M : LM} {u s : List Nat}
theorem lc_fm70 {b : Addr} {ls : List (List Nat)} {j : Nat} {tt : TT} {te : TE} {σ : L2.St} (hq : SqL K H b (ls.map vS)) (hn : ls.length ≤ 100000) (pr : List Nat → Bool) (val : List Nat → V)
    (h : ∀ (x : List Nat) (H1 : Hp) (C1 : VK) (C0 : Hp → Prop), x ∈ ls → Ex [] H H1 → (∀ H2, Ex [] H1 H2 → pr x = true → C1 (val x) H2) → (∀ H2, Ex [] H1 H2 → pr x = false → C0 H2) →
      tt ((wipe σ [j]).set j (some (vS x))) H1 fun b H2 => if b = true then te ((wipe σ [j]).set j (some (vS x))) H2 C1 else C0 H2)
    (k : ∀ D H', H D = none → Ex [] H H' → H' D = some (.lst ((ls.filter pr).map val)) → Q (.ref D) H') : LcW (Itl K b) (gName j) tt te [j] σ H Q := by
  refine lc_run (walk_list (xs := ls.map vS)) (by rw [List.length_map]; exact hn) [] (fun _ => True) (fun i acc _ => acc = ((ls.take i).filter pr).map val) (by simp) trivial (by simp) (fun _ _ _ _ _ => trivial) (fun _ _ _ _ _ _ h => h) (fun H1 e => e.sqL (by simp) hq) ?_ ?_
  · rintro i acc x H1 H2 C1 C0 hi e _ rfl ⟨rfl, hx⟩ k1 k0
    rw [List.length_map] at hi
    rw [List.getElem?_map, List.getElem?_eq_getElem hi] at hx
    cases hx
    refine ⟨wipe1 _ _ _, ?_⟩
    refine h ls[i] _ C1 C0 (List.getElem_mem hi) e (fun H5 e5 hp => k1 _ H5 e5 trivial ?_) (fun H5 e5 hp => k0 H5 e5 trivial ?_)
    · rw [List.take_add_one, List.getElem?_eq_getElem hi, List.filter_append, List.map_append]
      simp [hp]
    · rw [List.take_add_one, List.getElem?_eq_getElem hi, List.filter_append, List.map_append]
      simp [hp]
  · rintro D H' ys hD e _ hd _ rfl
    rw [List.length_map, List.take_length] at hd
    exact k D H' hD e hd
theorem at_end7 (h : 1 ≤ u.length) : atI u (-1) = some (prevC u 0) := by
  have e := at_prev (w := u) (i := 0) (by omega)
  exact e
theorem pure_law7_words (h : sp_law7_words K vs H Q E) : t_law7_words K (E1 Q) (start ["_law_signs_here", "_law_pairs_here", "_law_most", "_law_found", "_law_line", "_law_size", "_law_longer", "_law_word", "_law_sign"] vs) H := by
  obtain ⟨s, q, rfl, ps, hs, hq, lp, k⟩ := h
  show t_law7_words K (E1 Q) [some (vS s), some (.ref q), some (.int 4), none, none, none, none, none, none] H
  unfold t_law7_words
  have hsl := hs.2.1
  refine s_seq (s_par (s_cons (s_lst (s_nil (s_alloc (by decide) fun fl H1 n1 e1 h1 => s_cons (s_cb (s_cons (s_var (v := vS s) rfl (s_nil (s_listS (by rw [sizeLine_eq]; omega) fun l0 H2 n2 e2 h2 => s_nil (s_pair ?_)))))))))))
  show tSeq _ _ _ [some (vS s), some (.ref q), some (.int 4), some (.ref fl), some (.ref l0), none, none, none, none] _
  refine s_seq (s_for (s_rng1 (s_cons (s_var (v := .int 4) rfl (s_nil (s_rng1i (by omega) ?_))))))
  refine for_rng (fun i σ G => ∃ (fl ln : Addr) (ws line : List (List Nat)) (x5 x6 x7 x8 : Option V), σ = [some (vS s), some (.ref q), some (.int 4), some (.ref fl), some (.ref ln), x5, x6, x7, x8] ∧ Ex [] H G ∧ G fl = some (.lst (ws.map vS)) ∧ G ln = some (.lst (line.map vS)) ∧ (∀ u ∈ ws, 1 ≤ u.length ∧ u.length ≤ 4 ∧ ∀ c ∈ u, c ∈ s) ∧ (∀ u ∈ line, u.length = i + 1 ∧ ∀ c ∈ u, c ∈ s) ∧ line.length ≤ 4 ^ (i + 1) ∧ 3 * ws.length + 4 ≤ 4 ^ (i + 1)) ?_ ?_ ?_
  · refine ⟨fl, l0, [], s.map fun c => [c], none, none, none, none, rfl, e1.trans e2, e2.get0 h1, by rw [List.map_map]; exact h2, by simp, ?_, by rw [List.length_map]; simpa using hsl, by simp⟩
    intro u hu
    obtain ⟨c, hc, rfl⟩ := List.mem_map.mp hu
    exact ⟨rfl, fun d hd => by rw [List.mem_singleton.mp hd]; exact hc⟩
  · rintro i σ G hi ⟨fl, ln, ws, line, x5, x6, x7, x8, rfl, eG, hfl, hln, wws, wline, lline, lws⟩
    have hi : i < 4 := hi
    have hq1 := eG.get0 hq
    have l256 : line.length ≤ 256 := Nat.le_trans lline (by
      have : i = 0 ∨ i = 1 ∨ i = 2 ∨ i = 3 := by omega
      rcases this with rfl | rfl | rfl | rfl <;> decide)
    have l256' : 3 * ws.length + 4 ≤ 256 := Nat.le_trans lws (by
      have : i = 0 ∨ i = 1 ∨ i = 2 ∨ i = 3 := by omega
      rcases this with rfl | rfl | rfl | rfl <;> decide)
    refine s_gName (s_seq (s_asg (s_op (s_var (v := .ref fl) rfl (s_lc (s_iList (s_var (v := .ref ln) rfl (s_iListA (SqL.of hln) ?_))))))))
    refine lc_fm70 (SqL.of hln) (by omega) (fun u => decide ([prevC u 0, u.getD 0 0] ∈ ps)) vS (fun x J C1 C0 hx eJ k1 k0 => ?_) (fun d J nd ed hd => ?_)
    · have hxl := (wline x hx).1
      walk_at "go"
      refine s_ixS (c := prevC x 0) (by walk_at "sz") (at_end7 (by omega)) ?_
      walk_at "go"
      refine s_ixS (c := x.getD 0 0) (by walk_at "sz") (at_here (i := 0) (by omega)) ?_
      walk_at "go"
      refine s_inL (SqL.of (eJ.get0 hq1)) ?_
      walk_at "go"
      refine s_2 (fun hb => ?_) (fun hb => ?_)
      · walk_at "go"
        exact k1 _ Ex.rfl hb
      · exact k0 _ Ex.rfl hb
    refine s_cat (ed.get0 hfl) hd (Nat.le_trans (m := 1000) (by rw [List.length_map, List.length_map]; have := List.length_filter_le (fun u => decide ([prevC u 0, u.getD 0 0] ∈ ps)) line; omega) (by decide)) fun f2 J2 nf2 e2 hf2 => s_gName ?_
    show tSeq _ _ _ [some (vS s), some (.ref q), some (.int 4), some (.ref f2), some (.ref ln), some (.int (0 + (i : Int))), x6, x7, x8] _
    rw [← List.map_append] at hf2
    have eJ2 := ed.trans e2
    refine s_seq (s_asg (s_lst (s_nil (s_alloc (by decide) fun lg J3 n3 e3 h3 => s_gName ?_))))
    show tSeq _ _ _ [some (vS s), some (.ref q), some (.int 4), some (.ref f2), some (.ref ln), some (.int (0 + (i : Int))), some (.ref lg), x7, x8] _
    have eJ3 := eJ2.trans e3
    have hf3 := e3.get0 hf2
    refine s_seq (s_for (s_iList (s_var (v := .ref ln) rfl (s_iListA (SqL.of (eJ3.get0 hln)) ?_))))
    refine for_run (walk_list (xs := line.map vS)) (fun j σ G' => ∃ (lg : Addr) (nw : List (List Nat)) (x7 x8 : Option V), σ = [some (vS s), some (.ref q), some (.int 4), some (.ref f2), some (.ref ln), some (.int (0 + (i : Int))), some (.ref lg), x7, x8] ∧ Ex [] J3 G' ∧ G' lg = some (.lst (nw.map vS)) ∧ (∀ u ∈ nw, u.length = i + 2 ∧ ∀ c ∈ u, c ∈ s) ∧ nw.length ≤ 4 * j) ⟨lg, [], x7, x8, rfl, Ex.rfl, h3, by simp, by simp⟩ (fun _ _ _ _ h => by
      obtain ⟨_, _, _, _, _, e, _⟩ := h
      exact (eJ3.trans e).sqL (by simp) (SqL.of hln)) ?_ ?_
    · rintro j y σ A A2 hj ⟨lg, nw, x7, x8, rfl, eA, hlg, wnw, lnw⟩ ⟨rfl, hy⟩
      rw [List.length_map] at hj
      rw [List.getElem?_map, List.getElem?_eq_getElem hj] at hy
      cases hy
      have hx := wline line[j] (List.getElem_mem hj)
      have hxl := hx.1
      refine s_gName ?_
      show tAsg _ _ _ [some (vS s), some (.ref q), some (.int 4), some (.ref f2), some (.ref ln), some (.int (0 + (i : Int))), some (.ref lg), some (vS line[j]), x8] _
      refine s_asg (s_op (s_var (v := .ref lg) rfl (s_lc (s_iStr (s_var (v := vS s) rfl (s_iStrS ?_))))))
      refine lc_mapS (by omega) (fun c => decide ([prevC line[j] 0, c] ∈ ps)) (fun c => vS (line[j] ++ [c])) (fun c J C1 C0 hc eJ k1 k0 => ?_) (fun d J nd ed hd => ?_)
      · walk_at "go"
        refine s_ixS (c := prevC line[j] 0) (by walk_at "sz") (at_end7 (by omega)) ?_
        walk_at "go"
        refine s_inL (SqL.of (eJ.get0 (eA.get0 (eJ3.get0 hq1)))) ?_
        walk_at "go"
        refine s_2 (fun hb => ?_) (fun hb => ?_)
        · walk_at "go"
          exact k1 _ Ex.rfl hb
        · exact k0 _ Ex.rfl hb
      have lf := List.length_filter_le (fun c => decide ([prevC line[j] 0, c] ∈ ps)) s
      refine s_cat (ed.get0 hlg) hd (Nat.le_trans (m := 2000) (by rw [List.length_map, List.length_map]; omega) (by decide)) fun l2 B nl2 eB hl2 => s_gName ?_
      refine ⟨l2, nw ++ (s.filter fun c => decide ([prevC line[j] 0, c] ∈ ps)).map (fun c => line[j] ++ [c]), _, _, rfl, eA.trans (ed.trans eB), ?_, ?_, ?_⟩
      · rw [hl2, List.map_append, List.map_map]
        rfl
      · intro u hu
        rcases List.mem_append.mp hu with hu | hu
        · exact wnw u hu
        · obtain ⟨c, hc, rfl⟩ := List.mem_map.mp hu
          refine ⟨by rw [List.length_append, hxl]; rfl, fun d hd => ?_⟩
          rcases List.mem_append.mp hd with hd | hd
          · exact hx.2 d hd
          · rw [List.mem_singleton.mp hd]
            exact (List.mem_filter.mp hc).1
      · rw [List.length_append, List.length_map]
        omega
    · rintro σ A ⟨lg, nw, x7, x8, rfl, eA, hlg, wnw, lnw⟩
      rw [List.length_map] at lnw
      refine s_asg (s_var (v := .ref lg) rfl (s_gName ?_))
      have hf := List.length_filter_le (fun u => decide ([prevC u 0, u.getD 0 0] ∈ ps)) line
      refine ⟨f2, lg, ws ++ line.filter (fun u => decide ([prevC u 0, u.getD 0 0] ∈ ps)), nw, _, _, _, _, rfl, eG.trans (eJ3.trans eA), eA.get0 hf3, hlg, ?_, wnw, ?_, ?_⟩
      · intro u hu
        rcases List.mem_append.mp hu with hu | hu
        · exact wws u hu
        · have := wline u (List.mem_filter.mp hu).1
          exact ⟨by omega, by omega, this.2⟩
      · rw [Nat.pow_succ]
        omega
      · rw [List.length_append, Nat.pow_succ]
        omega
  · rintro σ G ⟨fl, ln, ws, line, x5, x6, x7, x8, rfl, eG, hfl, hln, wws, wline, lline, lws⟩
    have lws : 3 * ws.length + 4 ≤ 1024 := lws
    exact s_ret (s_var (v := .ref fl) rfl (k ws fl G wws (by omega) eG hfl))
end
end WB
namespace WB
open PySem PySem.Spec PyProof.Rows L2
theorem litP1_97_98_99_122 : ("abcz" : Str) = S [97, 98, 99, 122] := by decide +kernel
theorem litP1_107_109_120_121 : ("kmxy" : Str) = S [107, 109, 120, 121] := by decide +kernel
theorem litP1_98_100_112_122 : ("bdpz" : Str) = S [98, 100, 112, 122] := by decide +kernel
end WB
namespace WB
open PySem PySem.Spec PyProof.Rows L2
theorem litP2_115 : ("s" : Str) = S [115] := by decide +kernel
theorem litP2_115_105_103_110_115 : ("signs" : Str) = S [115, 105, 103, 110, 115] := by decide +kernel
theorem litP2_115_116_101_112_115 : ("steps" : Str) = S [115, 116, 101, 112, 115] := by decide +kernel
theorem litP2_101_110_100_115 : ("ends" : Str) = S [101, 110, 100, 115] := by decide +kernel
theorem litP2_121_101_115 : ("yes" : Str) = S [121, 101, 115] := by decide +kernel
theorem litP2_110_97_109_101_115 : ("names" : Str) = S [110, 97, 109, 101, 115] := by decide +kernel
section
variable {K : PySem.W.Frag} {vs : List V} {H H' : Hp} {Q : VK} {E : XK} {a q : Addr} {D : MD}
theorem StepsOk.ex0 {kt : List (List Key × V)} (e : Ex [] H H') (h : StepsOk K H kt D) : StepsOk K H' kt D := ⟨fun i hi c hc => by
  obtain ⟨p, h1, h2⟩ := h.1 i hi c hc
  exact ⟨p, h1, e.sqT (by simp) h2⟩, h.2⟩
theorem StepsOk.exP {kt : List (List Key × V)} (hp : PoolAt H a) (e : Ex [a] H H') (h : StepsOk K H kt D) : StepsOk K H' kt D := ⟨fun i hi c hc => by
  obtain ⟨p, h1, h2⟩ := h.1 i hi c hc
  exact ⟨p, h1, sqT_pool hp e h2⟩, h.2⟩
def SE1 (K : PySem.W.Frag) (H : Hp) (n : Nat) (kt : List (List Key × V)) (i c : Nat) : Prop := ∃ (z : Nat × Int) (p : Addr), valV kt [kI i, kS [c]] = some (.ref p) ∧ SqT K H p [.int (z.1 : Nat), .int z.2] ∧ z.1 < n ∧ z.2.natAbs ≤ 2 ^ 49
theorem put_keys {kt : List (List Key × V)} {k : List Key} {v : V} {e : List Key × V} (h : e ∈ putK kt k v) : e.1 = k ∨ ∃ e' ∈ kt, e'.1 = e.1 := by
  unfold putK at h
  split at h
  · obtain ⟨e', h1, rfl⟩ := List.mem_map.mp h
    refine .inr ⟨e', h1, ?_⟩
    split <;> rfl
  · rcases List.mem_append.mp h with h | h
    · exact .inr ⟨e, h, rfl⟩
    · rw [List.mem_singleton.mp h]; exact .inl rfl
structure PSt (K : PySem.W.Frag) (H0 : Hp) (a ss : Addr) (n : Nat) (s : List Nat) (R : Nat → Nat → Prop) (m : Nat) (H : Hp) : Prop where
  ex : Ex [a] H0 H
  pool : PoolAt H a
  tb : ∃ kt, H ss = some (.dT kt) ∧ kt.length ≤ m ∧ (∀ i c, R i c → SE1 K H n kt i c) ∧ KeysIn kt n s
section
variable {H0 : Hp} {ss : Addr} {n m : Nat} {s : List Nat} {R : Nat → Nat → Prop}
theorem PSt.ex0 (e : Ex [] H H') (h : PSt K H0 a ss n s R m H) : PSt K H0 a ss n s R m H' := by
  obtain ⟨h1, h2, kt, h4, h5, h6, h7⟩ := h
  refine ⟨h1.trans e.wide, h2.ex e (by simp), kt, e.get0 h4, h5, fun b c d => ?_, h7⟩
  obtain ⟨z, p, z1, z2, z3⟩ := h6 b c d
  exact ⟨z, p, z1, e.sqT (by simp) z2, z3⟩
theorem PSt.draw (e : Ex [a] H H') (hp : PoolAt H' a) (h : PSt K H0 a ss n s R m H) : PSt K H0 a ss n s R m H' := by
  obtain ⟨h1, h2, kt, h4, h5, h6, h7⟩ := h
  have h2' := h2
  obtain ⟨y1, y2, y3, hq⟩ := h2'
  refine ⟨h1.trans e, hp, kt, e.get ?_ h4, h5, fun b c d => ?_, h7⟩
  · simp only [List.mem_singleton]; intro w; rw [w, hq] at h4; cases h4
  · obtain ⟨z, p, z1, z2, z3⟩ := h6 b c d
    exact ⟨z, p, z1, sqT_pool h2 e z2, z3⟩
theorem PSt.lst {l : Addr} {xs : List V} (hl : H l = some (.lst xs)) (h0 : H0 l = none) (hla : l ≠ a) (e : Ex [l] H H') (h : PSt K H0 a ss n s R m H) : PSt K H0 a ss n s R m H' := by
  obtain ⟨h1, h2, kt, h4, h5, h6, h7⟩ := h
  refine ⟨Ex.dropN h0 h1 e, h2.ex e (by simpa using Ne.symm hla), kt, e.get ?_ h4, h5, fun b c d => ?_, h7⟩
  · simp only [List.mem_singleton]; intro w; rw [w, hl] at h4; cases h4
  · obtain ⟨z, p, z1, z2, z3⟩ := h6 b c d
    exact ⟨z, p, z1, sqT_lst hl e z2, z3⟩
theorem PSt.put {k0 p : Addr} {i c y : Nat} {z : Int} (h : PSt K H0 a ss n s R m H) (hss : H0 ss = none) (hm : m ≤ 1000) (hk : H k0 = some (.tup [.int (i : Nat), vS [c]])) (hp : SqT K H p [.int (y : Nat), .int z]) (hy : y < n) (hz : z.natAbs ≤ 2 ^ 49) (hi : i < n) (hc : c ∈ s) :
    ∃ H4, DPut H ss (.ref k0) (.ref p) H4 ∧ PSt K H0 a ss n s (fun b d => R b d ∨ (b = i ∧ d = c)) (m + 1) H4 := by
  obtain ⟨h1, h2, kt, h4, h5, h6, h7⟩ := h
  have h2' := h2
  obtain ⟨y1, y2, y3, hq⟩ := h2'
  have e : Ex [ss] H (upd H ss (.dT (putK kt [kI i, kS [c]] (.ref p)))) := Ex.put (by simp)
  have keep : ∀ {t : Addr} {xs : List V}, SqT K H t xs → SqT K (upd H ss (.dT (putK kt [kI i, kS [c]] (.ref p)))) t xs := fun h => sqT_non h4 (fun _ w => by cases w) (fun _ _ w => by cases w) e h
  refine ⟨_, DPut.t h4 (k := [kI i, kS [c]]) hk (Nat.lt_of_le_of_lt (Nat.le_trans h5 hm) (by decide)), Ex.dropN hss h1 e, ?_, _, upd_same, Nat.le_trans (length_putK _ _ _) (by omega), fun b d hbd => ?_, fun e' he' => ?_⟩
  · exact h2.ex e (by simp only [List.mem_singleton]; intro w; rw [← w, hq] at h4; cases h4)
  · by_cases hk : b = i ∧ d = c
    · obtain ⟨rfl, rfl⟩ := hk
      exact ⟨(y, z), p, by rw [valV_put, if_pos rfl], keep hp, hy, hz⟩
    · obtain ⟨z', p', z1, z2, z3⟩ := h6 b d (hbd.resolve_right hk)
      refine ⟨z', p', ?_, keep z2, z3⟩
      rw [valV_put, if_neg, z1]
      intro w
      have w1 := List.cons.inj w
      have w2 := List.cons.inj w1.2
      have w3 : ((b : Nat) : Int) = ((i : Nat) : Int) := Sum.inl.inj w1.1
      exact hk ⟨by omega, by have := kS_inj w2.1; simpa using this⟩
  · rcases put_keys he' with z | ⟨e2, z1, z2⟩
    · exact ⟨i, hi, c, hc, z⟩
    · rw [← z2]; exact h7 e2 z1
theorem PSt.weak {R' : Nat → Nat → Prop} {m' : Nat} (h : PSt K H0 a ss n s R m H) (h1 : ∀ b c, R' b c → R b c) (h3 : m ≤ m') : PSt K H0 a ss n s R' m' H := by
  obtain ⟨z1, z2, kt, h4, h5, h6, h7⟩ := h
  exact ⟨z1, z2, kt, h4, by omega, fun b c d => h6 b c (h1 b c d), h7⟩
end
end
end WB
namespace WB
open PySem PySem.Spec PyProof.Rows L2
local macro_rules | `(tactic| walk_at "lit") => `(tactic| first | exact lit_abc | exact lit_empty)
local macro_rules | `(tactic| walk_at "nm") => `(tactic| focus first | exact List.not_mem_nil | (simp only [List.mem_singleton]; first | assumption | (exact Ne.symm (by assumption)) | (intro hz; subst hz; simp_all; done)))
local macro_rules | `(tactic| walk_at "hp") => `(tactic| first | assumption | (apply Ex.get0 (by assumption); walk_at "hp") | (apply Ex.get (by assumption); (walk_at "nm"); (walk_at "hp")))
local macro_rules | `(tactic| walk_at "sq") => `(tactic| first | assumption | (apply SqL.of; walk_at "hp") | (apply Ex.sqL (by assumption); (walk_at "nm"); (walk_at "sq")))
local macro_rules | `(tactic| walk_at "sqt") => `(tactic| first | assumption | (apply SqT.of; walk_at "hp") | (apply Ex.sqT (by assumption); (walk_at "nm"); (walk_at "sqt")))
local macro_rules | `(tactic| walk_at "sz") => `(tactic| focus ((with_reducible refine Nat.le_trans (m := 100000) ?_ (by decide)); first | omega | (simp; done) | (simp; omega)))
local macro_rules | `(tactic| walk_at "mul") => `(tactic| first | exact Or.inr ⟨by omega, by omega⟩ | exact Or.inl ⟨by omega, by omega⟩)
local macro_rules | `(tactic| walk_at "pool") => `(tactic| first | assumption | (apply PoolAt.ex (by assumption); (walk_at "nm"); (walk_at "pool")))
local macro_rules | `(tactic| walk_at "ring") => `(tactic| first | assumption | (apply RingAt.ex (by assumption); (walk_at "nm"); (walk_at "ring")))
local macro_rules | `(tactic| walk_at "st") => `(tactic| first
  | with_reducible refine s_seq ?_
  | with_reducible refine s_asg ?_
  | with_reducible refine s_gName ?_
  | with_reducible refine s_ret ?_
  | with_reducible refine s_ifS ?_
  | with_reducible refine s_next ?_
  | with_reducible refine s_op ?_
  | ((with_reducible apply s_var); exact rfl)
  | ((with_reducible apply s_cS); (walk_at "lit"))
  | with_reducible refine s_c ?_
  | with_reducible refine s_cb ?_
  | with_reducible refine s_cons ?_
  | with_reducible refine s_nil ?_
  | with_reducible refine s_un ?_
  | with_reducible refine s_call ?_
  | with_reducible refine s_test ?_
  | with_reducible refine s_tB ?_
  | with_reducible refine s_blQ ?_
  | with_reducible refine s_not ?_
  | with_reducible refine s_and ?_
  | with_reducible refine s_or ?_
  | with_reducible refine s_andV ?_
  | with_reducible refine s_orV ?_
  | with_reducible refine s_notV ?_
  | with_reducible refine s_ifE ?_
  | with_reducible refine s_chain ?_
  | ((with_reducible refine s_T ?_ ?_); (with_reducible exact rfl))
  | with_reducible refine s_nT ?_
  | with_reducible refine s_nF ?_
  | ((with_reducible refine s_F ?_ ?_); (with_reducible exact rfl))
  | ((with_reducible refine s_T ?_ ?_); assumption)
  | ((with_reducible refine s_F ?_ ?_); assumption)
  | ((with_reducible refine s_nB ?_ ?_); assumption)
  | ((with_reducible refine s_nA ?_ ?_); assumption)
  | ((with_reducible refine s_Td ?_ ?_); omega)
  | ((with_reducible refine s_Fd ?_ ?_); omega)
  | ((with_reducible refine s_nTd ?_ ?_); omega)
  | ((with_reducible refine s_nFd ?_ ?_); omega)
  | with_reducible refine s_sfld ?_
  | with_reducible refine s_addI ?_
  | with_reducible refine s_subI ?_
  | ((with_reducible refine s_mulI ?_ ?_); (walk_at "mul"))
  | ((with_reducible refine s_divI ?_ ?_); exact ⟨by omega, by omega⟩)
  | ((with_reducible refine s_modI ?_ ?_); omega)
  | ((with_reducible refine s_powI ?_ ?_); exact ⟨by decide, by decide, by decide⟩)
  | with_reducible refine s_ltI ?_
  | with_reducible refine s_leI ?_
  | with_reducible refine s_gtI ?_
  | with_reducible refine s_geI ?_
  | with_reducible refine s_negI ?_
  | with_reducible refine s_absI ?_
  | with_reducible refine s_intI ?_
  | with_reducible refine s_min2 ?_
  | with_reducible refine s_max2 ?_
  | with_reducible refine s_eqI ?_
  | with_reducible refine s_neI ?_
  | with_reducible refine s_eqS ?_
  | with_reducible refine s_neS ?_
  | with_reducible refine s_inSg ?_
  | with_reducible refine s_notInSg ?_
  | ((with_reducible refine s_addS ?_ ?_); (walk_at "sz"))
  | ((with_reducible refine s_lenS ?_ ?_); (walk_at "sz"))
  | ((with_reducible apply s_lenL); (walk_at "sq"))
  | ((with_reducible apply s_lenT); (walk_at "sqt"))
  | ((with_reducible apply s_ixL); (walk_at "sq"); exact rfl)
  | ((with_reducible apply s_ixT); (walk_at "sqt"); exact rfl)
  | with_reducible refine s_gSub ?_
  | ((with_reducible apply s_setL); (walk_at "hp"); (exact rfl); (intro _ _ _))
  | ((with_reducible refine s_alloc ?_ ?_); (walk_at "sz"); (intro _ _ _ _ _))
  | ((with_reducible refine s_divmod ?_ ?_); (exact ⟨by omega, PyProof.noPylong_small (by omega)⟩); (intro _ _ _ _ _))
  | ((with_reducible apply s_gTup); (walk_at "sqt"); (exact rfl))
  | ((with_reducible apply s_gLst); (walk_at "sq"); (exact rfl))
  | with_reducible refine s_gCons ?_
  | with_reducible refine s_gNil ?_
  | with_reducible refine s_lc ?_
  | ((with_reducible apply s_cat); (walk_at "hp"); (walk_at "hp"); (walk_at "sz"); (intro _ _ _ _ _))
  | ((with_reducible apply s_slL); (walk_at "sq"); (intro _ _ _ _ _))
  | with_reducible refine s_for ?_
  | with_reducible refine s_rng1 ?_
  | ((with_reducible refine s_rng1i ?_ ?_); (constructor <;> omega))
  | with_reducible refine s_rng2 ?_
  | ((with_reducible refine s_rng2i ?_ ?_); (refine ⟨?_, ?_, ?_, ?_⟩ <;> omega))
  | with_reducible refine s_iStr ?_
  | with_reducible refine s_iStrS ?_
  | with_reducible refine s_iList ?_
  | ((with_reducible apply s_iListA); (walk_at "sq"))
  | with_reducible refine s_iTup ?_
  | ((with_reducible apply s_iTupA); (walk_at "sqt"))
  | with_reducible refine s_sl ?_
  | with_reducible refine s_noPart ?_
  | with_reducible refine s_part ?_
  | with_reducible refine s_int1 ?_
  | ((with_reducible refine s_slS ?_ ?_); (walk_at "sz"))
  | with_reducible refine s_tup ?_
  | with_reducible refine s_lst ?_
  | with_reducible refine s_par ?_
  | with_reducible refine s_pair ?_
  | with_reducible refine s_M1 ?_
  | with_reducible refine s_isStr ?_
  | with_reducible refine s_revS ?_
  | ((with_reducible refine s_revS1 ?_ ?_); (walk_at "sz"))
  | with_reducible refine s_fldE ?_
  | with_reducible refine s_propE ?_
  | ((with_reducible refine u_draw ?_ ?_ ?_ ?_); omega; omega; (walk_at "pool"); (intro _ _ _ _ _ _))
  | ((with_reducible refine u_pool ?_); (intro _ _ _ _ _))
  | with_reducible refine u_is_integer ?_
  | with_reducible refine s_isiII ?_
  | with_reducible refine s_isiIB ?_
  | with_reducible refine s_isiSS ?_
  | ((with_reducible apply u_fldRing); assumption; (walk_at "ring"))
  | ((with_reducible apply u_textP); (walk_at "ring"))
  | ((with_reducible apply u_strRing); (walk_at "ring"))
  | ((with_reducible apply u_eqRing); (walk_at "ring"); (walk_at "ring"))
  | ((with_reducible apply u_isiRing); assumption; (walk_at "ring"))
  | ((with_reducible refine u_is_word ?_ ?_); omega; (intro _ _))
  | ((with_reducible refine u_turnings ?_ ?_); omega; (intro _ _ _ _ _))
  | with_reducible refine s_makeE ?_
  | with_reducible refine s_methE ?_)
local macro_rules | `(tactic| walk_at "go") => `(tactic| repeat (walk_at "st"))
local macro_rules | `(tactic| walk_at "exs") => `(tactic| first | exact Ex.rfl | assumption | (apply Ex.snoc (by assumption); walk_at "exs") | (apply Ex.snocW (by assumption); walk_at "exs"))
local macro_rules | `(tactic| walk_at "st") => `(tactic| first
  | ((with_reducible refine u_pick7 ?_ ?_ ?_ ?_); omega; omega; (walk_at "pool"); (intro _ _ _ _ _ _))
  | ((with_reducible refine u_amount7 ?_ ?_); (walk_at "pool"); (intro _ _ _ _ _)))
def t_law7_model (K : PySem.W.Frag) : TS :=
  (tSeq (tAsg (tOp rAddI (tC (.int 1)) (tCB rMin2 (tCons (tOp (rIxL K) (tLst (tCons (tC (.int 0)) (tCons (tC (.int 1)) (tCons (tC (.int 1)) (tCons (tC (.int 1)) (tCons (tC (.int 2)) tNil)))))) (tCall (sp_law7_pick K) [] E0 (tCons (tVar 0) (tCons (tC (.int 5)) tNil)))) (tCons (tOp rSubI (tVar 2) (tC (.int 1))) tNil)))) (gName 3))
  (tSeq (tAsg tDNewT (gName 4))
  (tSeq (tFor (iStr (tVar 1)) (gName 5) (tSeq (tPar 7 8 (tCons (tCall (sp_law7_pick K) [] E0 (tCons (tVar 0) (tCons (tC (.int 3)) tNil))) (tCons (tCall (sp_law7_pick K) [] E0 (tCons (tVar 0) (tCons (tVar 3) tNil))) tNil)))
  (tFor (iRng1 (tCons (tVar 3) tNil)) (gName 6) (tSeq (tAsg (tCall (sp_law7_pick K) [] E0 (tCons (tVar 0) (tCons (tVar 3) tNil))) (gName 9))
  (tSeq (tIfS (tTest (tOp rEq (tVar 3) (tC (.int 3)))) (tAsg (tIf (tTest (tOp rEq (tVar 7) (tC (.int 0)))) (tVar 6) (tVar 8)) (gName 9)) tNext)
  (sDPut (tVar 4) (tTup (tCons (tVar 6) (tCons (tVar 5) tNil))) (tTup (tCons (tVar 9) (tCons (tCall (sp_law7_amount K) [] E0 (tCons (tVar 0) tNil)) tNil)))))))))
  (tSeq (tAsg (tLc (iRng1 (tCons (tVar 3) tNil)) (gName 6) tYes (tTup (tCons (tCall (sp_law7_pick K) [] E0 (tCons (tVar 0) (tCons (tVar 3) tNil))) (tCons (tCall (sp_law7_amount K) [] E0 (tCons (tVar 0) tNil)) tNil))) [6]) (gName 10))
  (tSeq (tAsg (tLc (iRng1 (tCons (tVar 3) tNil)) (gName 6) tYes (tOp rEq (tCall (sp_law7_pick K) [] E0 (tCons (tVar 0) (tCons (tC (.int 3)) tNil))) (tC (.int 0))) [6]) (gName 11))
  (tRet (tTup (tCons (tVar 1) (tCons (tVar 3) (tCons (tVar 4) (tCons (tVar 10) (tCons (tVar 11) tNil))))))))))))
section
variable {K : PySem.W.Frag} {w : World} {vs : List V} {H H' : Hp} {Q : VK} {E : XK} {a : Addr} {v : V} {m : List Addr} {D : MD} {M : LM} {u s : List Nat}
theorem tups_pool7 {xs : List V} {ls : List (List V)} (hp : PoolAt H a) (e : Ex [a] H H') (t : Tups K H xs ls) : Tups K H' xs ls := ⟨t.1, fun i x l h1 h2 => by
  obtain ⟨p, h3, h4⟩ := t.2 i x l h1 h2
  exact ⟨p, h3, sqT_pool hp e h4⟩⟩
theorem cutS7 {T : TS} {σ : L2.St} {nx bk ct : L2.St → Hp → Prop} {rt : VK} (P : L2.St → Hp → Prop) (h1 : ∀ nx' : L2.St → Hp → Prop, (∀ σ G, P σ G → nx' σ G) → T ⟨nx', rt, bk, ct⟩ σ H) (h2 : ∀ σ G, P σ G → nx σ G) : T ⟨nx, rt, bk, ct⟩ σ H := h1 nx h2
theorem pure_law7_model (h : sp_law7_model K vs H Q E) : t_law7_model K (E1 Q) (start ["_law_purse_here", "_law_signs_here", "_law_most", "_law_size", "_law_steps", "_law_sign", "_law_state", "_law_way", "_law_goal", "_law_later", "_law_ends", "_law_says"] vs) H := by
  obtain ⟨a, s, n, rfl, hs, hsrt, n1, n3, hp, k⟩ := h
  show t_law7_model K (E1 Q) [some (.ref a), some (vS s), some (.int n), none, none, none, none, none, none, none, none, none] H
  unfold t_law7_model
  have hsl := hs.2.1
  refine s_seq (s_asg (cutpt (fun v G => ∃ z : Nat, v = .int (z : Nat) ∧ 1 ≤ z ∧ (z : Int) ≤ n ∧ Ex [a] H G ∧ PoolAt G a) (fun Q' kq => ?_) ?_))
  · walk_at "go"
    rename_i l G3 nl e3 z3 r G4 r0 r1 e4 p4
    have hla : l ≠ a := fun z => hp.there (z ▸ nl)
    obtain ⟨sz, hsz, sz0, sz2⟩ : ∃ sz : Int, atI [V.int 0, .int 1, .int 1, .int 1, .int 2] r = some (.int sz) ∧ 0 ≤ sz ∧ sz ≤ 2 := by
      have hr : r = 0 ∨ r = 1 ∨ r = 2 ∨ r = 3 ∨ r = 4 := by omega
      rcases hr with rfl | rfl | rfl | rfl | rfl
      · exact ⟨0, rfl, by omega, by omega⟩
      · exact ⟨1, rfl, by omega, by omega⟩
      · exact ⟨1, rfl, by omega, by omega⟩
      · exact ⟨1, rfl, by omega, by omega⟩
      · exact ⟨2, rfl, by omega, by omega⟩
    refine s_ixL (SqL.of (e4.get (by simpa using hla) z3)) hsz ?_
    walk_at "go"
    refine kq _ _ ⟨(1 + if n - 1 < sz then n - 1 else sz).toNat, ?_, ?_, ?_, e3.wide.trans e4, p4⟩
    · rw [Int.toNat_of_nonneg (by split <;> omega)]
    · split <;> omega
    · rw [Int.toNat_of_nonneg (by split <;> omega)]
      split <;> omega
  rintro v G0 ⟨z, rfl, z1, zn, e0, p0⟩
  refine s_gName ?_
  show tSeq _ _ _ [some (.ref a), some (vS s), some (.int n), some (.int (z : Nat)), none, none, none, none, none, none, none, none] _
  refine s_seq (s_asg (s_dnewT fun ss H2 nss e2 h2 => s_gName ?_))
  have hssa : ss ≠ a := fun y => p0.there (y ▸ nss)
  have hss0 : H ss = none := Ex.freeP p0 e0 nss
  have p2 := p0.ex e2 (by simp)
  show tSeq _ _ _ [some (.ref a), some (vS s), some (.int n), some (.int (z : Nat)), some (.ref ss), none, none, none, none, none, none, none] _
  have m0 : PSt K H a ss z s (fun i c => i < z ∧ c ∈ s.take 0) 0 H2 := ⟨e0.trans e2.wide, p2, [], h2, by simp, fun i c d => by simp at d, fun e he => by cases he⟩
  clear e0 p0 e2 p2 h2 nss
  have wk := walk_str (z := S s)
  have hsz : (S s).cps.size = s.length := by simp [S]
  rw [hsz] at wk
  refine s_seq (s_for (s_iStr (s_var (v := vS s) rfl (s_iStrS ?_))))
  refine for_run wk (fun j σ G => ∃ x5 x6 x7 x8 x9, σ = [some (.ref a), some (vS s), some (.int n), some (.int (z : Nat)), some (.ref ss), x5, x6, x7, x8, x9, none, none] ∧ PSt K H a ss z s (fun i c => i < z ∧ c ∈ s.take j) (j * 3) G) ⟨_, _, _, _, _, rfl, m0⟩ (fun _ _ _ _ _ => trivial) ?_ ?_
  · rintro j y σ G G2 hj ⟨x5, x6, x7, x8, x9, rfl, mj⟩ ⟨rfl, c, hc, ev⟩
    have ev : y = vS [c] := ev
    subst ev
    have hc : s[j]? = some c := by simpa [S] using hc
    have ht1 : s.take (j + 1) = s.take j ++ [c] := by rw [List.take_add_one, hc]; rfl
    rw [ht1]
    refine s_gName (s_seq (s_par (s_cons (s_call (s_cons (s_var (v := .ref a) rfl (s_cons (s_c (s_nil ?_)))))))))
    refine u_pick7 (by decide) (by decide) mj.pool fun wy G3 w0 w1 e3 p3 => ?_
    have m3 := mj.draw e3 p3
    refine s_cons (s_call (s_cons (s_var (v := .ref a) rfl (s_cons (s_var (v := .int (z : Nat)) rfl (s_nil ?_))))))
    refine u_pick7 (by omega) (by omega) p3 fun gl G4 g0 g1 e4 p4 => s_nil (s_pair ?_)
    have m4 := m3.draw e4 p4
    clear mj m3 e3 p3 e4 p4
    show tFor _ _ _ _ [some (.ref a), some (vS s), some (.int n), some (.int (z : Nat)), some (.ref ss), some (vS [c]), x6, some (.int wy), some (.int gl), x9, none, none] _
    refine s_for (s_rng1 (s_cons (s_var (v := .int (z : Nat)) rfl (s_nil (s_rng1i (by omega) ?_)))))
    refine for_run walk_range (fun i σ J => ∃ x6 x9, σ = [some (.ref a), some (vS s), some (.int n), some (.int (z : Nat)), some (.ref ss), some (vS [c]), x6, some (.int wy), some (.int gl), x9, none, none] ∧ PSt K H a ss z s (fun i' c' => (i' < z ∧ c' ∈ s.take j) ∨ (i' < i ∧ c' = c)) (j * 3 + i) J) ⟨_, _, rfl, m4.weak (fun i' c' hh => hh.resolve_right fun w => by omega) (by omega)⟩ (fun _ _ _ _ _ => trivial) ?_ ?_
    · rintro i v σ J J2 hi ⟨x6, x9, rfl, mi⟩ ⟨rfl, rfl⟩
      have hi : i < z := hi
      refine s_gName (s_seq (s_asg (s_call (s_cons (s_var (v := .ref a) rfl (s_cons (s_var (v := .int (z : Nat)) rfl (s_nil ?_))))))))
      refine u_pick7 (by omega) (by omega) mi.pool fun r J3 r0 r1 e5 p5 => s_gName ?_
      have m5 := mi.draw e5 p5
      clear mi e5
      show tSeq _ _ _ [some (.ref a), some (vS s), some (.int n), some (.int (z : Nat)), some (.ref ss), some (vS [c]), some (.int (0 + (i : Int))), some (.int wy), some (.int gl), some (.int r), none, none] _
      refine s_seq (cutS7 (fun σ G => ∃ lt : Nat, lt < z ∧ G = J3 ∧ σ = [some (.ref a), some (vS s), some (.int n), some (.int (z : Nat)), some (.ref ss), some (vS [c]), some (.int (0 + (i : Int))), some (.int wy), some (.int gl), some (.int (lt : Nat)), none, none]) (fun nx' kq => ?_) ?_)
      · walk_at "go"
        refine s_2 (fun hb => ?_) (fun hb => ?_)
        · walk_at "go"
          refine s_2 (fun hb => ?_) (fun hb => ?_)
          · walk_at "go"
            exact kq _ _ ⟨i, hi, rfl, by rw [Int.zero_add]; rfl⟩
          · walk_at "go"
            exact kq _ _ ⟨gl.toNat, by omega, rfl, by rw [Int.toNat_of_nonneg g0]; rfl⟩
        · walk_at "go"
          exact kq _ _ ⟨r.toNat, by omega, rfl, by rw [Int.toNat_of_nonneg r0]⟩
      rintro σ G ⟨lt, hlt, rfl, rfl⟩
      refine s_dput ?_
      refine s_tup (s_cons (s_var rfl (s_cons (s_call (s_cons (s_var rfl (s_nil ?_)))))))
      refine u_amount7 m5.pool fun am G6 ham e6 p6 => ?_
      have m6 := m5.draw e6 p6
      refine s_nil (s_alloc (by show 2 ≤ sizeLine; decide) fun p G7 np e7 z7 => ?_)
      walk_at "go"
      rename_i k0 G8 nk e8 z8
      have z8 : G8 k0 = some (.tup [.int ((i : Nat) : Int), vS [c]]) := by
        rw [z8]
        show some (HO.tup [.int ((0 : Int) + (i : Nat)), vS [c]]) = _
        rw [Int.zero_add]
      obtain ⟨G9, d9, m9⟩ := ((m6.ex0 e7).ex0 e8).put hss0 (by omega) z8 (SqT.of (e8.get0 z7)) hlt ham hi (List.mem_of_getElem? hc)
      refine ⟨ss, G9, rfl, d9, _, _, rfl, m9.weak (fun i' c' hh => ?_) (by omega)⟩
      rcases hh with hh | ⟨h1, h2⟩
      · exact .inl (.inl hh)
      · by_cases e : i' = i
        · exact .inr ⟨e, h2⟩
        · exact .inl (.inr ⟨by omega, h2⟩)
    · rintro σ J ⟨x6, x9, rfl, mi⟩
      refine ⟨_, _, _, _, _, rfl, mi.weak (fun i' c' hh => ?_) (by show j * 3 + z ≤ _; omega)⟩
      rcases List.mem_append.mp hh.2 with h | h
      · exact .inl ⟨hh.1, h⟩
      · exact .inr ⟨hh.1, List.mem_singleton.mp h⟩
  · rintro σ G ⟨x5, x6, x7, x8, x9, rfl, mj⟩
    rw [List.take_length] at mj
    have nss : ∀ {J : Hp}, PSt K H a ss z s (fun i c => i < z ∧ c ∈ s) (s.length * 3) J → ∃ kt, J ss = some (.dT kt) := fun h => by
      obtain ⟨kt, h, _⟩ := h.tb
      exact ⟨kt, h⟩
    refine s_seq (s_asg (s_lc (s_rng1 (s_cons (s_var (v := .int (z : Nat)) rfl (s_nil (s_rng1i (by omega) ?_)))))))
    refine lc_run walk_range (by show z ≤ _; omega) [a] (fun H2 => PoolAt H2 a) (fun i acc J => ∃ es : List (Nat × Int), es.length = i ∧ (∀ y ∈ es, y.1 < z ∧ y.2.natAbs ≤ 2 ^ 49) ∧ Tups K J acc (es.map fun y => [V.int (y.1 : Nat), .int y.2])) (fun b hb => by rw [List.mem_singleton.mp hb]; exact mj.pool.there) mj.pool ⟨[], rfl, by simp, Tups.nil⟩
      (fun H2 D o n h => h.upd n) (fun i acc H1 D o hd h => by
        obtain ⟨es, h1, h2, h3⟩ := h
        exact ⟨es, h1, h2, h3.upd hd⟩) (fun _ _ => trivial) ?_ ?_
    · rintro i acc x J J2 C1 C0 hi eJ pJ ⟨es, hel, hes, tes⟩ ⟨rfl, rfl⟩ k1 k0
      refine ⟨wipe1 _ _ _, s_yes (s_T rfl ?_)⟩
      refine s_tup (s_cons (s_call (s_cons (s_var (v := .ref a) rfl (s_cons (s_var (v := .int (z : Nat)) rfl (s_nil ?_)))))))
      refine u_pick7 (by omega) (by omega) pJ fun r J3 r0 r1 e3 p3 => ?_
      refine s_cons (s_call (s_cons (s_var (v := .ref a) rfl (s_nil ?_))))
      refine u_amount7 p3 fun am J4 ham e4 p4 => s_nil (s_alloc (by show 2 ≤ sizeLine; decide) fun p J5 np e5 z5 => ?_)
      refine k1 _ _ ((e3.trans e4).trans e5.wide) (p4.ex e5 (by simp)) ⟨es ++ [(r.toNat, am)], by simp [hel], fun y hy => ?_, ?_⟩
      · rcases List.mem_append.mp hy with hy | hy
        · exact hes y hy
        · rw [List.mem_singleton.mp hy]
          exact ⟨by show r.toNat < z; omega, ham⟩
      · rw [List.map_append]
        refine Tups.snoc ((tups_pool7 pJ (e3.trans e4) tes).ex0 e5) (SqT.of ?_)
        rw [z5]
        show some (HO.tup [.int r, .int am]) = some (HO.tup [.int (r.toNat : Nat), .int am])
        rw [Int.toNat_of_nonneg r0]
    rintro ee G1 xs nee eG pG hee _ ⟨es, hel, hes, tes⟩
    have m1 := mj.draw eG pG
    have hee0 : H ee = none := Ex.freeP mj.pool mj.ex nee
    have heea : ee ≠ a := fun y => hp.there (y ▸ hee0)
    have hees : ee ≠ ss := fun y => by
      obtain ⟨kt, h⟩ := nss mj
      rw [← y, nee] at h
      cases h
    clear mj eG nee
    refine s_gName ?_
    show tSeq _ _ _ [some (.ref a), some (vS s), some (.int n), some (.int (z : Nat)), some (.ref ss), x5, x6, x7, x8, x9, some (.ref ee), none] _
    refine s_seq (s_asg (s_lc (s_rng1 (s_cons (s_var (v := .int (z : Nat)) rfl (s_nil (s_rng1i (by omega) ?_)))))))
    refine lc_run walk_range (by show z ≤ _; omega) [a] (fun H2 => PoolAt H2 a) (fun i acc J => ∃ bs : List Bool, acc = bs.map V.bl ∧ bs.length = i) (fun b hb => by rw [List.mem_singleton.mp hb]; exact pG.there) pG ⟨[], rfl, rfl⟩
      (fun H2 D o n h => h.upd n) (fun _ _ _ _ _ _ h => h) (fun _ _ => trivial) ?_ ?_
    · rintro i acc x J J2 C1 C0 hi eJ pJ ⟨bs, rfl, hbl⟩ ⟨rfl, rfl⟩ k1 k0
      refine ⟨wipe1 _ _ _, s_yes (s_T rfl ?_)⟩
      refine s_op (s_call (s_cons (s_var (v := .ref a) rfl (s_cons (s_c (s_nil ?_))))))
      refine u_pick7 (by decide) (by decide) pJ fun r J3 r0 r1 e3 p3 => s_c (s_eqI (k1 _ _ e3 p3 ⟨bs ++ [decide (r = 0)], by rw [List.map_append]; rfl, by simp [hbl]⟩))
    rintro yy G2 ys nyy eG pG2 hyy _ ⟨bs, rfl, hbl⟩
    have m2 := m1.draw eG pG2
    have hyy0 : H yy = none := Ex.freeP pG m1.ex nyy
    have hyya : yy ≠ a := fun y => hp.there (y ▸ hyy0)
    have hee2 := eG.get (by simpa using heea) hee
    have tes2 := tups_pool7 pG eG tes
    clear m1 hee tes eG pG nyy
    refine s_gName ?_
    show tRet _ _ [some (.ref a), some (vS s), some (.int n), some (.int (z : Nat)), some (.ref ss), x5, x6, x7, x8, x9, some (.ref ee), some (.ref yy)] _
    refine s_ret (s_tup (s_cons (s_var (v := vS s) rfl (s_cons (s_var (v := .int (z : Nat)) rfl (s_cons (s_var (v := .ref ss) rfl (s_cons (s_var (v := .ref ee) rfl (s_cons (s_var (v := .ref yy) rfl (s_nil ?_))))))))))))
    refine s_alloc (by show 5 ≤ sizeLine; decide) fun q J4 nq e4 hq => ?_
    have m4 := m2.ex0 e4
    have p4 := m4.pool
    obtain ⟨kt, k1, k2, k3, k4⟩ := m4.tb
    have hqa : q ≠ a := fun y => m2.pool.there (y ▸ nq)
    have eh : Ex [a] J4 (hidA J4 a) := hidA_to
    have cT : ∀ i c, i < z → c ∈ s → ∃ p, valV kt [kI i, kS [c]] = some (.ref p) ∧ SqT K J4 p [.int ((Classical.epsilon fun y : Nat × Int => ∃ p, valV kt [kI i, kS [c]] = some (.ref p) ∧ SqT K J4 p [.int (y.1 : Nat), .int y.2] ∧ y.1 < z ∧ y.2.natAbs ≤ 2 ^ 49).1 : Nat), .int (Classical.epsilon fun y : Nat × Int => ∃ p, valV kt [kI i, kS [c]] = some (.ref p) ∧ SqT K J4 p [.int (y.1 : Nat), .int y.2] ∧ y.1 < z ∧ y.2.natAbs ≤ 2 ^ 49).2] ∧ (Classical.epsilon fun y : Nat × Int => ∃ p, valV kt [kI i, kS [c]] = some (.ref p) ∧ SqT K J4 p [.int (y.1 : Nat), .int y.2] ∧ y.1 < z ∧ y.2.natAbs ≤ 2 ^ 49).1 < z ∧ (Classical.epsilon fun y : Nat × Int => ∃ p, valV kt [kI i, kS [c]] = some (.ref p) ∧ SqT K J4 p [.int (y.1 : Nat), .int y.2] ∧ y.1 < z ∧ y.2.natAbs ≤ 2 ^ 49).2.natAbs ≤ 2 ^ 49 := fun i c hi hc => Classical.epsilon_spec (p := fun y : Nat × Int => ∃ p, valV kt [kI i, kS [c]] = some (.ref p) ∧ SqT K J4 p [.int (y.1 : Nat), .int y.2] ∧ y.1 < z ∧ y.2.natAbs ≤ 2 ^ 49) (k3 i c ⟨hi, hc⟩)
    have hel : es.length = z := hel
    have hbl : bs.length = z := hbl
    have hget : ∀ i, i < z → es[i]? = some (es.getD i (0, 0)) := fun i hi => by
      have h : i < es.length := by omega
      rw [List.getD_eq_getElem?_getD, List.getElem?_eq_getElem h]
      rfl
    have hen : (List.range z).map (fun i => [V.int ((es.getD i (0, 0)).1 : Nat), .int (es.getD i (0, 0)).2]) = es.map fun z => [V.int (z.1 : Nat), .int z.2] := by
      apply List.ext_getElem?
      intro i
      by_cases h : i < z
      · rw [List.getElem?_map, List.getElem?_range h, List.getElem?_map, hget i h]
        rfl
      · rw [List.getElem?_eq_none (by simp; omega), List.getElem?_eq_none (by simp; omega)]
    have hmy : ∀ i, i < z → (i ∈ (List.range z).filter (fun i => bs.getD i false) ↔ bs.getD i false = true) := fun i hi => by
      rw [List.mem_filter, List.mem_range]
      exact ⟨fun h => h.2, fun h => ⟨hi, h⟩⟩
    have hdy : ∀ i, i < z → decide (i ∈ (List.range z).filter (fun i => bs.getD i false)) = bs.getD i false := fun i hi => by
      rw [Bool.eq_iff_iff, decide_eq_true_iff]
      exact hmy i hi
    have hbv : (List.range z).map (fun i => V.bl (decide (i ∈ (List.range z).filter (fun i => bs.getD i false)))) = bs.map V.bl := by
      apply List.ext_getElem?
      intro i
      by_cases h : i < z
      · rw [List.getElem?_map, List.getElem?_range h, List.getElem?_map]
        show some (V.bl (decide (i ∈ (List.range z).filter (fun i => bs.getD i false)))) = _
        rw [hdy i h, List.getD_eq_getElem?_getD, List.getElem?_eq_getElem (by omega)]
        rfl
      · rw [List.getElem?_eq_none (by simp; omega), List.getElem?_eq_none (by simp; omega)]
    refine k q ⟨z, s, [], fun i c => Classical.epsilon fun y : Nat × Int => ∃ p, valV kt [kI i, kS [c]] = some (.ref p) ∧ SqT K J4 p [.int (y.1 : Nat), .int y.2] ∧ y.1 < z ∧ y.2.natAbs ≤ 2 ^ 49, fun i => es.getD i (0, 0), (List.range z).filter fun i => bs.getD i false⟩ J4 ⟨z1, by show z ≤ 3; omega, hs, hsrt, fun i hi c hc => ?_, fun i hi => ⟨(hes _ (List.mem_of_getElem? (hget i hi))).1, Nat.le_trans (hes _ (List.mem_of_getElem? (hget i hi))).2 (by decide)⟩, ⟨List.filter_sublist.nodup List.nodup_range, fun y hy => List.mem_range.mp (List.mem_filter.mp hy).1⟩, ?_⟩ rfl (by show ((z : Nat) : Int) ≤ n; omega) m4.ex p4 ⟨ss, ee, yy, kt, sqT_pool p4 eh (SqT.of hq), eh.get (by simpa using hssa) k1, ⟨fun i hi c hc => ?_, Nat.le_trans k2 (by omega), k4⟩, ⟨xs, eh.get (by simpa using heea) (e4.get0 hee2), ?_⟩, ?_⟩
    · obtain ⟨p, _, _, h⟩ := cT i c hi hc
      exact ⟨h.1, Nat.le_trans h.2 (by decide)⟩
    · show (List.range z).filter (fun i => bs.getD i false) = (List.range z).filter fun i => decide (i ∈ (List.range z).filter (fun i => bs.getD i false))
      exact (List.filter_congr fun i hi => hdy i (List.mem_range.mp hi)).symm
    · obtain ⟨p, h1, h2, _⟩ := cT i c hi hc
      exact ⟨p, h1, sqT_pool p4 eh h2⟩
    · show Tups K (hidA J4 a) xs ((List.range z).map fun i => [V.int ((es.getD i (0, 0)).1 : Nat), .int (es.getD i (0, 0)).2])
      rw [hen]
      exact tups_pool7 p4 eh (tes2.ex0 e4)
    · show hidA J4 a yy = some (.lst ((List.range z).map fun i => V.bl (decide (i ∈ (List.range z).filter (fun i => bs.getD i false)))))
      rw [hbv]
      exact eh.get (by simpa using hyya) (e4.get0 hyy)
end
end WB
namespace WB
open PySem PySem.Spec PyProof.Rows L2
theorem l70m_100_105_102_102_101_114 : ("differ" : Str) = S [100, 105, 102, 102, 101, 114] := by decide +kernel
theorem l70m_97_98 : ("ab" : Str) = S [97, 98] := by decide +kernel
def t_b70_8 (K : PySem.W.Frag) (w : World) : TS :=
  (tIfS (tNot (tB (tCall (sp_law7_accepted K w) [] E0 (tCons (tVar 9) (tCons (tVar 11) (tCons (tCall (sp_law7_due K) [] E0 (tCons (tVar 3) (tCons (tVar 2) (tCons (tVar 10) (tCons (tVar 11) tNil))))) tNil)))))) (tRet (tC (.bl false))) tNext)
def t_b70_7 (K : PySem.W.Frag) (w : World) : TS :=
  (tSeq (tAsg (tOp (rCatA K) (tTup (tCons (tC (.str "differ")) (tCons (tOp (rIxL K) (tVar 4) (tC (.int 0))) (tCons (tOp (rIxL K) (tVar 4) (tC (.int 1))) tNil)))) (tIf (tB (tCB (rIsi K) (tCons (tVar 10) (tCons (tC (.ty "tuple")) tNil)))) (tVar 10) (tTup (tCons (tVar 10) tNil)))) (gName 9))
  (t_b70_8 K w))
def t_b70_6 (K : PySem.W.Frag) (w : World) : TS :=
  (tSeq (tIfS (tTest (tOp rEq (tCall (sp_law7_pick K) [] E0 (tCons (tVar 0) (tCons (tC (.int 6)) tNil))) (tC (.int 0)))) (tAsg (tCall (sp_law7_odd K) [] E0 (tCons (tVar 0) tNil)) (gName 11)) tNext)
  (t_b70_7 K w))
def t_b70_5 (K : PySem.W.Frag) (w : World) : TS :=
  (tSeq (tIfS (tTest (tOp rEq (tCall (sp_law7_pick K) [] E0 (tCons (tVar 0) (tCons (tC (.int 3)) tNil))) (tC (.int 0)))) (tAsg (tCall (sp_law7_bent K 3) [] E0 (tCons (tVar 0) (tCons (tVar 10) tNil))) (gName 10)) tNext)
  (t_b70_6 K w))
def t_b70_4 (K : PySem.W.Frag) (w : World) : TS :=
  (tSeq (tPar 10 11 (tCons (tTup (tCons (tVar 7) (tCons (tOp rAddS (tSl rSlS (tVar 7) (tPart (tVar 8)) tNoPart) (tSl rSlS (tVar 7) tNoPart (tPart (tVar 8)))) (tCons (tCall (sp_law7_lap K) [] E0 (tCons (tVar 0) tNil)) tNil)))) (tCons (tTup tNil) tNil)))
  (t_b70_5 K w))
def t_b70_3 (K : PySem.W.Frag) (w : World) : TS :=
  (tSeq (tAsg (tCall (sp_law7_pick K) [] E0 (tCons (tVar 0) (tCons (tCB (rLenV K) (tCons (tVar 7) tNil)) tNil))) (gName 8))
  (t_b70_4 K w))
def t_b70_2 (K : PySem.W.Frag) (w : World) : TS :=
  (tSeq (tIfS (tTest (tOp rEq (tCall (sp_law7_pick K) [] E0 (tCons (tVar 0) (tCons (tC (.int 9)) tNil))) (tC (.int 0)))) (tAsg (tOp rAddS (tOp rAddS (tVar 7) (tOp rIxS (tVar 1) (tCall (sp_law7_pick K) [] E0 (tCons (tVar 0) (tCons (tCB (rLenV K) (tCons (tVar 1) tNil)) tNil))))) (tSl rSlS (tC (.str "ab")) tNoPart (tPart (tCall (sp_law7_pick K) [] E0 (tCons (tVar 0) (tCons (tC (.int 3)) tNil)))))) (gName 7)) tNext)
  (t_b70_3 K w))
def t_b70_1 (K : PySem.W.Frag) (w : World) : TS :=
  (tSeq (tIfS (tTest (tOp rEq (tCall (sp_law7_pick K) [] E0 (tCons (tVar 0) (tCons (tC (.int 9)) tNil))) (tC (.int 0)))) (tAsg (tOp rMulS (tVar 7) (tOp rAddI (tOp rDivI (tC (.int 600)) (tCB (rLenV K) (tCons (tVar 7) tNil))) (tCall (sp_law7_pick K) [] E0 (tCons (tVar 0) (tCons (tC (.int 2)) tNil))))) (gName 7)) tNext)
  (t_b70_2 K w))
def t_b70_0 (K : PySem.W.Frag) (w : World) : TS :=
  (tSeq (tAsg (tIf (tTest (tOp (rNeD K) (tVar 5) (tLst tNil))) (tOp (rIxL K) (tVar 5) (tCall (sp_law7_pick K) [] E0 (tCons (tVar 0) (tCons (tCB (rLenV K) (tCons (tVar 5) tNil)) tNil)))) (tOp rMulS (tVar 1) (tC (.int 2)))) (gName 7))
  (t_b70_1 K w))
section
variable {K : PySem.W.Frag} {w : World} {vs : List V} {H H' : Hp} {Q : VK} {E : XK} {a : Addr} {v : V} {m : List Addr} {D : MD} {M : LM} {u s : List Nat}
theorem gl_loopD7 (g : GoodMD D) : GL (loopD D) := ⟨loopD_good g, by
  show D.nm.filter (fun a => decide (a ∈ D.nm.filter fun a => decide (a ∈ yesD D))) = D.nm.filter fun a => decide (a ∈ yesD D)
  apply List.filter_congr
  intro a ha
  simp [List.mem_filter, ha], sgn_idem _⟩
theorem row_pool7 {q : Addr} {l : List Nat} {ps : List (List Nat)} (hp : PoolAt H a) (e : Ex [a] H H') (h : RowAt K H q l ps) : RowAt K H' q l ps := by
  obtain ⟨t, h1, h2⟩ := h
  exact ⟨t, sqT_pool hp e h1, sqT_pool hp e h2⟩
theorem hid7 (e : Ex [a] H H') : Ex [] (hidA H a) (hidA H' a) := fun b o _ h => by
  unfold hidA at h ⊢
  by_cases c : b = a
  · rw [if_pos c] at h
    cases h
  · rw [if_neg c] at h ⊢
    exact e b o (by simpa using c) h
theorem m7_draw {q : Addr} (e : Ex [a] H H') (h : M7At K (hidA H a) q D) : M7At K (hidA H' a) q D := h.ex0 (hid7 e)
theorem m7_all {q : Addr} (h : M7At K (hidA H a) q D) : M7At K H q D := h.ex0 hidA_ex
theorem pool_noS {q : Addr} {ls : List (List Nat)} (hp : PoolAt H a) (h : H q = some (.lst (ls.map vS))) : q ≠ a := by
  intro z
  obtain ⟨y1, y2, y3, hq⟩ := hp
  rw [z, hq] at h
  match ls with
  | [] => cases h
  | x :: ls => cases h
theorem RsL.all {rest : List V} (h : RsL K H v rest) : rest.length ≤ 10 ∧ ∀ x ∈ rest, El7 K [] H x := by
  rcases h with ⟨p, rfl, hp, l, e⟩ | ⟨rfl, e, _⟩
  · exact ⟨l, e⟩
  · exact ⟨by simp, fun x hx => by rw [List.mem_singleton.mp hx]; exact e⟩
structure C70 where
  H0 : Hp
  a : Addr
  pa : Addr
  q : Addr
  rw : Addr
  wa : Addr
  r : Addr
  kd : Addr
  s : List Nat
  ps : List (List Nat)
  ws : List (List Nat)
  st : List (List Nat)
  D : MD
structure Fx70 (c : C70) : Prop where
  sg : Sg7 c.s
  gr : goodRow c.s c.ps
  gd : Good7 c.D
  hst : goodSt c.st
  stl : c.st.length = c.D.n
  sub : ∀ x ∈ c.s, x ∈ c.D.s
  ws : ∀ u ∈ c.ws, 1 ≤ u.length ∧ u.length ≤ 4 ∧ ∀ x ∈ u, x ∈ c.s
  lw : c.ws.length ≤ 1000
  npa : c.pa ≠ c.a
  nrw : c.rw ≠ c.a
  nwa : c.wa ≠ c.a
structure In70 (K : PySem.W.Frag) (c : C70) (G : Hp) : Prop where
  ex : Ex [c.a] c.H0 G
  pool : PoolAt G c.a
  pa : G c.pa = some (.lst (c.ps.map vS))
  md : M7At K (hidA G c.a) c.q c.D
  rw : G c.rw = some (.lst [.ref c.r, .ref c.kd])
  lr : LRowAt K G c.r (loopD (nmD c.D c.st))
  kr : RowAt K G c.kd c.s c.ps
  wa : G c.wa = some (.lst (c.ws.map vS))
section
variable {c : C70} {G G' : Hp}
theorem In70.draw (F : Fx70 c) (I : In70 K c G) (e : Ex [c.a] G G') (p : PoolAt G' c.a) : In70 K c G' := ⟨I.ex.trans e, p, e.get (by simpa using F.npa) I.pa, m7_draw e I.md, e.get (by simpa using F.nrw) I.rw, I.lr.exP I.pool e, row_pool7 I.pool e I.kr, e.get (by simpa using F.nwa) I.wa⟩
theorem In70.ex0 (F : Fx70 c) (I : In70 K c G) (e : Ex [] G G') : In70 K c G' := I.draw F e.wide (I.pool.ex e (by simp))
def st70 (c : C70) (ti : V) (x7 x8 x9 x10 x11 : Option V) : L2.St := [some (.ref c.a), some (vS c.s), some (.ref c.pa), some (.ref c.q), some (.ref c.rw), some (.ref c.wa), some ti, x7, x8, x9, x10, x11]
def Nx70 (K : PySem.W.Frag) (c : C70) (ti : V) (nx : L2.St → Hp → Prop) : Prop := ∀ x7 x8 x9 x10 x11 G, In70 K c G → nx (st70 c ti x7 x8 x9 x10 x11) G
structure Tx70 (c : C70) (n : Nat) (u : List Nat) : Prop where
  pos : 1 ≤ u.length
  le : u.length ≤ n
  pl : plain u
theorem Tx70.mono {n k : Nat} (h : Tx70 c n u) (hk : n ≤ k) : Tx70 c k u := ⟨h.pos, Nat.le_trans h.le hk, h.pl⟩
variable {nx bk ct : L2.St → Hp → Prop} {rt : VK} {ti : V} {x7 x8 x9 x10 x11 : Option V}
theorem b70_8 (F : Fx70 c) (I : In70 K c G) {p : Addr} {v pc : V} {pe : Bool} {rest : List V} (hp : SqT K G p (vS sDiffer :: .ref c.r :: .ref c.kd :: rest)) (hr : RsL K G v rest) (hc : Pp7 K [] G pc pe) (k : Nx70 K c ti nx) : t_b70_8 K w ⟨nx, rt, bk, ct⟩ (st70 c ti x7 x8 (some (.ref p)) (some v) (some pc)) G := by
  have g : GoodMD (nmD c.D c.st) := good_nm F.gd F.hst F.stl
  have eab : (loopD (nmD c.D c.st)).ab = c.D.s := g.srt
  obtain ⟨rl, re⟩ := hr.all
  unfold t_b70_8
  refine s_ifS (s_not (s_tB (s_call (s_cons (s_var (v := .ref p) rfl (s_cons (s_var (v := pc) rfl (s_cons (s_call (s_cons (s_var (v := .ref c.q) rfl (s_cons (s_var (v := .ref c.pa) rfl (s_cons (s_var (v := v) rfl (s_cons (s_var (v := pc) rfl (s_nil ?_))))))))))))))))))
  refine ⟨c.q, c.pa, v, pc, rfl, c.D, c.st, c.ps, rest, pe, m7_all I.md, F.gd, F.hst, F.stl, I.pa, by have := F.gr.2.2.2.2; omega, row_pairs F.gr F.sub, hr, hc, fun b G1 e1 hb => s_nil ?_⟩
  refine ⟨p, pc, b, rfl, c.r, c.kd, rest, loopD (nmD c.D c.st), c.s, c.ps, pe, sq7 e1 hp, by omega, fun x hx => (re x hx).ex e1, I.lr.ex0 e1, gl_loopD7 g, I.kr.ex0 e1, F.gr, by rw [eab]; exact F.sub, hc.ex e1, hb, fun G2 e2 => ?_⟩
  exact s_blQ (s_F rfl (s_next (k _ _ _ _ _ _ (I.ex0 F (e1.trans e2)))))
theorem b70_7 (F : Fx70 c) (I : In70 K c G) {v pc : V} {pe : Bool} (hv : Rs7 K [c.a] G v) (hc : Pp7 K [c.a] G pc pe) (k : Nx70 K c ti nx) : t_b70_7 K w ⟨nx, rt, bk, ct⟩ (st70 c ti x7 x8 x9 (some v) (some pc)) G := by
  have sd : (V.str "differ" : V) = vS sDiffer := by
    show _ = V.str (S sDiffer)
    exact congrArg V.str (by decide +kernel)
  unfold t_b70_7
  refine s_seq (s_asg (s_op (s_tup (s_cons (s_c (s_cons (s_op (s_var (v := .ref c.rw) rfl (s_c (s_ixL (v := .ref c.r) (SqL.of I.rw) (atI_of (by decide) rfl) (s_cons (s_op (s_var (v := .ref c.rw) rfl (s_c (s_ixL (v := .ref c.kd) (SqL.of I.rw) (atI_of (by decide) rfl) (s_nil (s_alloc (by show 3 ≤ sizeLine; decide) fun t G1 nt e1 ht => ?_)))))))))))))))))
  rw [sd] at ht
  have hv1 := hv.ex e1.wide
  have hc1 : Pp7 K [] G1 pc pe := (hc.ex e1.wide).less
  have I1 := I.ex0 F e1
  clear hv hc I
  refine s_ifE (s_tB (s_cb (s_cons (s_var (v := v) rfl (s_cons (s_c (s_nil ?_)))))))
  have fin : ∀ (b : Addr) (rest : List V) (G2 : Hp), Ex [] G1 G2 → SqT K G2 b rest → rest.length ≤ 10 → (∀ G', Ex [] G1 G' → RsL K G' v rest) → rCatA K (.ref t) (.ref b) G2 fun x G3 => gName 9 x (st70 c ti x7 x8 x9 (some v) (some pc)) G3 fun σ G4 => t_b70_8 K w ⟨nx, rt, bk, ct⟩ σ G4 := fun b rest G2 e2 hb lr hr => by
    refine s_catB (SqT.of (e2.get0 ht)) hb (by simp only [List.length_cons, List.length_nil]; omega) fun p G3 e3 hp => s_gName ?_
    exact b70_8 (x7 := x7) (x8 := x8) F (I1.ex0 F (e2.trans e3)) hp (hr _ (e2.trans e3)) (hc1.ex (e2.trans e3)) k
  have one : ∀ n : String, n ≠ "tuple" → Kd K G1 v n → (∀ G', Ex [] G1 G' → RsL K G' v [v]) → rIsi K [v, .ty "tuple"] G1 fun b G2 => ∃ bb, b = .bl bb ∧ (if bb = true then tVar 10 (st70 c ti x7 x8 x9 (some v) (some pc)) G2 fun y G3 => rCatA K (.ref t) y G3 fun x G3 => gName 9 x (st70 c ti x7 x8 x9 (some v) (some pc)) G3 fun σ G4 => t_b70_8 K w ⟨nx, rt, bk, ct⟩ σ G4 else tTup (tCons (tVar 10) tNil) (st70 c ti x7 x8 x9 (some v) (some pc)) G2 fun y G3 => rCatA K (.ref t) y G3 fun x G3 => gName 9 x (st70 c ti x7 x8 x9 (some v) (some pc)) G3 fun σ G4 => t_b70_8 K w ⟨nx, rt, bk, ct⟩ σ G4) := fun n hn hk hr => by
    refine s_isiK hk (b := false) (kitB_tuple7 hk.2 hn) (s_blQ (s_F rfl ?_))
    exact s_tup (s_cons (s_var (v := v) rfl (s_nil (s_alloc (by show 1 ≤ sizeLine; decide) fun b G2 nb e2 hb => fin b [v] G2 e2 (SqT.of hb) (by simp) hr))))
  cases hv1 with
  | tup p xs h1 h2 h3 =>
    refine s_isiK (Kd.tup (h1 _ Ex.rfl)) (b := true) (by decide +kernel) (s_blQ (s_T rfl ?_))
    exact s_var (v := .ref p) rfl (fin p xs G1 Ex.rfl (h1 _ Ex.rfl) h2 fun G' e => .inl ⟨p, rfl, h1 _ e.wide, h2, fun x hx => (h3 x hx).less.ex e⟩)
  | str l h1 h2 => exact one "str" (by decide) Kd.str fun G' e => .inr ⟨rfl, .str l h1 h2, "str", by decide, Kd.str⟩
  | int i => exact one "int" (by decide) Kd.int fun G' e => .inr ⟨rfl, .int i, "int", by decide, Kd.int⟩
  | oth v n h1 h2 h4 h3 => exact one n h4 (h3 _ Ex.rfl) fun G' e => .inr ⟨rfl, (El7.oth (m := [c.a]) v n h1 h2 h3).less.ex e, n, h4, h3 _ e.wide⟩
theorem b70_6 (F : Fx70 c) (I : In70 K c G) {v pc : V} {pe : Bool} (hv : Rs7 K [c.a] G v) (hc : Pp7 K [c.a] G pc pe) (k : Nx70 K c ti nx) : t_b70_6 K w ⟨nx, rt, bk, ct⟩ (st70 c ti x7 x8 x9 (some v) (some pc)) G := by
  unfold t_b70_6
  refine s_seq (s_ifS (s_test (s_op (s_call (s_cons (s_var (v := .ref c.a) rfl (s_cons (s_c (s_nil ?_)))))))))
  refine u_pick7 (by decide) (by decide) I.pool fun r G1 r0 r1 e1 p1 => s_c (s_eqI (s_blQ ?_))
  have I1 := I.draw F e1 p1
  have hv1 := hv.ex e1
  refine s_2 (fun hb => ?_) (fun hb => ?_)
  · refine s_asg (s_call (s_cons (s_var (v := .ref c.a) rfl (s_nil ?_))))
    refine u_odd7 p1 fun y G2 e2 p2 hy => s_gName ?_
    obtain ⟨pe2, hy2⟩ := hy.pp
    exact b70_7 (x7 := x7) (x8 := x8) (x9 := x9) F (I1.draw F e2 p2) (hv1.ex e2) hy2 k
  · exact s_next (b70_7 (x7 := x7) (x8 := x8) (x9 := x9) F I1 hv1 (hc.ex e1) k)
theorem b70_5 (F : Fx70 c) (I : In70 K c G) {p : Addr} {u t : List Nat} {i : Int} {pc : V} {pe : Bool} (hp : G p = some (.tup [vS u, vS t, .int i])) (np : p ≠ c.a) (hu : Tx70 c 700 u) (ht : Tx70 c 700 t) (hc : Pp7 K [c.a] G pc pe) (k : Nx70 K c ti nx) : t_b70_5 K w ⟨nx, rt, bk, ct⟩ (st70 c ti x7 x8 x9 (some (.ref p)) (some pc)) G := by
  unfold t_b70_5
  refine s_seq (s_ifS (s_test (s_op (s_call (s_cons (s_var (v := .ref c.a) rfl (s_cons (s_c (s_nil ?_)))))))))
  refine u_pick7 (by decide) (by decide) I.pool fun r G1 r0 r1 e1 p1 => s_c (s_eqI (s_blQ ?_))
  have I1 := I.draw F e1 p1
  have hp1 := e1.get (by simpa using np) hp
  refine s_2 (fun hb => ?_) (fun hb => ?_)
  · refine s_asg (s_call (s_cons (s_var (v := .ref c.a) rfl (s_cons (s_var (v := .ref p) rfl (s_nil ?_))))))
    refine u_bentT (n := 1) p1 hp1 np (by simp) (by simp) ?_ fun y G2 e2 p2 hy => s_gName ?_
    rotate_left
    · exact b70_6 (x7 := x7) (x8 := x8) (x9 := x9) F (I1.draw F e2 p2) hy (hc.ex (e1.trans e2)) k
    intro x hx
    simp only [List.mem_cons, List.not_mem_nil, or_false] at hx
    rcases hx with rfl | rfl | rfl
    · exact .str u hu.pos (by have := hu.le; omega) hu.pl
    · exact .str t ht.pos (by have := ht.le; omega) ht.pl
    · exact .int i
  · refine s_next (b70_6 (x7 := x7) (x8 := x8) (x9 := x9) F I1 (.tup p _ (sq_tup hp1 (by simpa using np)) (by simp) ?_) (hc.ex e1) k)
    intro x hx
    simp only [List.mem_cons, List.not_mem_nil, or_false] at hx
    rcases hx with rfl | rfl | rfl
    · exact .str u (by have := hu.le; omega) hu.pl
    · exact .str t (by have := ht.le; omega) ht.pl
    · exact .int i
theorem b70_4 (F : Fx70 c) (I : In70 K c G) {u : List Nat} {i : Int} (h0 : 0 ≤ i) (hi : i < u.length) (hu : Tx70 c 700 u) (k : Nx70 K c ti nx) : t_b70_4 K w ⟨nx, rt, bk, ct⟩ (st70 c ti (some (vS u)) (some (.int i)) x9 x10 x11) G := by
  have l7 := hu.le
  have szu : u.length ≤ sizeLine := Nat.le_trans (m := 1000) (by omega) (by decide)
  unfold t_b70_4
  refine s_seq (s_par (s_cons (s_tup (s_cons (s_var (v := vS u) rfl (s_cons (s_op (s_sl (s_var (v := vS u) rfl (s_part (s_var (v := .int i) rfl (s_int1 (s_noPart (s_slS szu ?_))))))))))))))
  rw [cut_from h0]
  refine s_sl (s_var (v := vS u) rfl (s_noPart (s_part (s_var (v := .int i) rfl (s_int1 (s_slS szu ?_))))))
  rw [cut_to h0]
  refine s_addS (Nat.le_trans (m := 1000) (by rw [List.length_drop, List.length_take]; omega) (by decide)) ?_
  have ht : Tx70 c 700 (u.drop i.toNat ++ u.take i.toNat) := ⟨by rw [List.length_append, List.length_drop, List.length_take]; omega, by rw [List.length_append, List.length_drop, List.length_take]; omega, fun x hx => by
    rcases List.mem_append.mp hx with hx | hx
    · exact hu.pl x (List.mem_of_mem_drop hx)
    · exact hu.pl x (List.mem_of_mem_take hx)⟩
  refine s_cons (s_call (s_cons (s_var (v := .ref c.a) rfl (s_nil ⟨c.a, rfl, I.pool, fun lp G1 e1 p1 => s_nil (s_alloc (by show 3 ≤ sizeLine; decide) fun p G2 np e2 hp => ?_)⟩))))
  refine s_cons (s_tup (s_nil (s_alloc (by decide) fun pc G3 npc e3 hpc => s_nil (s_pair ?_))))
  have p2 := p1.ex e2 (by simp)
  have I3 := (I.draw F e1 p1).ex0 F (e2.trans e3)
  have npa : p ≠ c.a := fun z => p1.there (z ▸ np)
  have npca : pc ≠ c.a := fun z => p2.there (z ▸ npc)
  exact b70_5 (x7 := some (vS u)) (x8 := some (.int i)) (x9 := x9) (pe := true) F I3 (e3.get0 hp) npa hu ht (fun G' e => .inl ⟨pc, [], rfl, sq_tup hpc (by simpa using npca) G' e, rfl, by simp⟩) k
theorem b70_3 (F : Fx70 c) (I : In70 K c G) {u : List Nat} (hu : Tx70 c 700 u) (k : Nx70 K c ti nx) : t_b70_3 K w ⟨nx, rt, bk, ct⟩ (st70 c ti (some (vS u)) x8 x9 x10 x11) G := by
  have l7 := hu.le
  have l1 := hu.pos
  have szu : u.length ≤ sizeLine := Nat.le_trans (m := 1000) (by omega) (by decide)
  unfold t_b70_3
  refine s_seq (s_asg (s_call (s_cons (s_var (v := .ref c.a) rfl (s_cons (s_cb (s_cons (s_var (v := vS u) rfl (s_nil (s_lenS szu (s_nil ?_)))))))))))
  refine u_pick7 (by omega) (by omega) I.pool fun r G1 r0 r1 e1 p1 => s_gName ?_
  exact b70_4 (x9 := x9) (x10 := x10) (x11 := x11) F (I.draw F e1 p1) r0 r1 hu k
theorem b70_2 (F : Fx70 c) (I : In70 K c G) {u : List Nat} (hu : Tx70 c 650 u) (k : Nx70 K c ti nx) : t_b70_2 K w ⟨nx, rt, bk, ct⟩ (st70 c ti (some (vS u)) x8 x9 x10 x11) G := by
  have l7 := hu.le
  have l1 := hu.pos
  have s4 := F.sg.1.2.1
  have s1 := (isWord_len F.sg.1.1).1
  have szs : c.s.length ≤ sizeLine := Nat.le_trans (m := 1000) (by omega) (by decide)
  unfold t_b70_2
  refine s_seq (s_ifS (s_test (s_op (s_call (s_cons (s_var (v := .ref c.a) rfl (s_cons (s_c (s_nil ?_)))))))))
  refine u_pick7 (by decide) (by decide) I.pool fun r G1 r0 r1 e1 p1 => s_c (s_eqI (s_blQ ?_))
  have I1 := I.draw F e1 p1
  refine s_2 (fun hb => ?_) (fun hb => ?_)
  · refine s_asg (s_op (s_op (s_var (v := vS u) rfl (s_op (s_var (v := vS c.s) rfl (s_call (s_cons (s_var (v := .ref c.a) rfl (s_cons (s_cb (s_cons (s_var (v := vS c.s) rfl (s_nil (s_lenS szs (s_nil ?_)))))))))))))))
    refine u_pick7 (by omega) (by omega) p1 fun r2 G2 r20 r21 e2 p2 => ?_
    obtain ⟨x, hx, hxs⟩ : ∃ x, c.s[r2.toNat]? = some x ∧ x ∈ c.s := ⟨c.s[r2.toNat]'(by omega), List.getElem?_eq_getElem (by omega), List.getElem_mem _⟩
    refine s_ixS szs (atI_of r20 hx) (s_addS (Nat.le_trans (m := 1000) (by simp only [List.length_cons, List.length_nil]; omega) (by decide)) ?_)
    refine s_sl (s_cS l70m_97_98 (s_noPart (s_part (s_call (s_cons (s_var (v := .ref c.a) rfl (s_cons (s_c (s_nil ?_)))))))))
    refine u_pick7 (by decide) (by decide) p2 fun r3 G3 r30 r31 e3 p3 => s_int1 (s_slS (by decide) ?_)
    have lc := cut_le7 (l := [97, 98]) (lo := none) (hi := some r3)
    have lc2 : (cut [97, 98] none (some r3)).length ≤ 2 := lc
    refine s_addS (Nat.le_trans (m := 1000) (by simp only [List.length_append, List.length_cons, List.length_nil]; omega) (by decide)) (s_gName ?_)
    refine b70_3 (x8 := x8) (x9 := x9) (x10 := x10) (x11 := x11) F ((I1.draw F e2 p2).draw F e3 p3) ⟨by simp only [List.length_append]; omega, by simp only [List.length_append, List.length_cons, List.length_nil]; omega, ?_⟩ k
    refine plain_app (plain_app hu.pl (plain_in F.sg.1 hxs)) (plain_cut ?_)
    intro y hy
    revert y
    decide
  · exact s_next (b70_3 (x8 := x8) (x9 := x9) (x10 := x10) (x11 := x11) F I1 (hu.mono (by decide)) k)
theorem b70_1 (F : Fx70 c) (I : In70 K c G) {u : List Nat} (hu : Tx70 c 8 u) (k : Nx70 K c ti nx) : t_b70_1 K w ⟨nx, rt, bk, ct⟩ (st70 c ti (some (vS u)) x8 x9 x10 x11) G := by
  have l7 := hu.le
  have l1 := hu.pos
  have szu : u.length ≤ sizeLine := Nat.le_trans (m := 1000) (by omega) (by decide)
  unfold t_b70_1
  refine s_seq (s_ifS (s_test (s_op (s_call (s_cons (s_var (v := .ref c.a) rfl (s_cons (s_c (s_nil ?_)))))))))
  refine u_pick7 (by decide) (by decide) I.pool fun r G1 r0 r1 e1 p1 => s_c (s_eqI (s_blQ ?_))
  have I1 := I.draw F e1 p1
  refine s_2 (fun hb => ?_) (fun hb => ?_)
  · refine s_asg (s_op (s_var (v := vS u) rfl (s_op (s_op (s_c (s_cb (s_cons (s_var (v := vS u) rfl (s_nil (s_lenS szu (s_divI ⟨by omega, by omega⟩ ?_)))))))))))
    refine s_call (s_cons (s_var (v := .ref c.a) rfl (s_cons (s_c (s_nil ?_)))))
    refine u_pick7 (by decide) (by decide) p1 fun r2 G2 r20 r21 e2 p2 => s_addI ?_
    have b1 : 600 / (u.length : Int) * u.length ≤ 600 := Int.ediv_mul_le _ (by omega)
    have b2 : 0 ≤ 600 / (u.length : Int) := Int.ediv_nonneg (by decide) (by omega)
    have b3 : 600 / (u.length : Int) ≤ 600 := Int.ediv_le_self _ (by decide)
    have b4 : 1 ≤ 600 / (u.length : Int) := by
      rw [Int.le_ediv_iff_mul_le (by omega)]
      omega
    have b5 : u.length * (600 / (u.length : Int) + r2).toNat ≤ 608 := by
      have e : ((u.length * (600 / (u.length : Int) + r2).toNat : Nat) : Int) = u.length * (600 / (u.length : Int) + r2) := by
        rw [Int.natCast_mul, Int.toNat_of_nonneg (by omega)]
      have e2 : (u.length : Int) * (600 / (u.length : Int) + r2) = 600 / (u.length : Int) * u.length + u.length * r2 := by rw [Int.mul_add, Int.mul_comm (u.length : Int) (600 / _)]
      have e3 : (u.length : Int) * r2 ≤ 8 := by
        have h : r2 = 0 ∨ r2 = 1 := by omega
        rcases h with rfl | rfl <;> omega
      omega
    refine s_mulS (by omega) (by omega) (by omega) (s_gName ?_)
    refine b70_2 (x8 := x8) (x9 := x9) (x10 := x10) (x11 := x11) F (I1.draw F e2 p2) ⟨?_, ?_, ?_⟩ k
    · rw [rep_length, Nat.mul_comm]
      exact Nat.mul_pos l1 (by omega)
    · rw [rep_length, Nat.mul_comm]
      omega
    · intro x hx
      unfold rep at hx
      obtain ⟨l, hl, hx⟩ := List.mem_flatten.mp hx
      rw [List.eq_of_mem_replicate hl] at hx
      exact hu.pl x hx
  · exact s_next (b70_2 (x8 := x8) (x9 := x9) (x10 := x10) (x11 := x11) F I1 (hu.mono (by decide)) k)
theorem b70_0 (F : Fx70 c) (I : In70 K c G) (k : Nx70 K c ti nx) : t_b70_0 K w ⟨nx, rt, bk, ct⟩ (st70 c ti x7 x8 x9 x10 x11) G := by
  have s4 := F.sg.1.2.1
  have s1 := (isWord_len F.sg.1.1).1
  have pls := plain_ab F.sg.1
  have lw := F.lw
  unfold t_b70_0
  refine s_seq (s_asg (s_ifE (s_test (s_op (s_var (v := .ref c.wa) rfl (s_lst (s_nil (s_alloc (by decide) fun e0 G1 ne e1 he => ?_))))))))
  have I1 := I.ex0 F e1
  refine s_neLS (ls := c.ws) (ms := []) (SqL.of I1.wa) (SqL.of he) (fun l hl => plain_sub pls ((F.ws l hl).2.2)) (by simp) (s_blQ ?_)
  refine s_2 (fun hb => ?_) (fun hb => ?_)
  · have hne : c.ws ≠ [] := by simpa using hb
    have lpos := List.length_pos_iff.mpr hne
    refine s_op (s_var (v := .ref c.wa) rfl (s_call (s_cons (s_var (v := .ref c.a) rfl (s_cons (s_cb (s_cons (s_var (v := .ref c.wa) rfl (s_nil (s_lenL (SqL.of I1.wa) (s_nil ?_)))))))))))
    refine u_pick7 (by rw [List.length_map]; omega) (by rw [List.length_map]; omega) I1.pool fun r G2 r0 r1 e2 p2 => ?_
    rw [List.length_map] at r1
    have I2 := I1.draw F e2 p2
    have hw := F.ws (c.ws[r.toNat]'(by omega)) (List.getElem_mem _)
    refine s_ixL (v := vS (c.ws[r.toNat]'(by omega))) (SqL.of I2.wa) (atI_of r0 (by rw [List.getElem?_map, List.getElem?_eq_getElem (by omega)]; rfl)) (s_gName ?_)
    exact b70_1 (x8 := x8) (x9 := x9) (x10 := x10) (x11 := x11) F I2 ⟨hw.1, by omega, plain_sub pls hw.2.2⟩ k
  · refine s_op (s_var (v := vS c.s) rfl (s_c (s_mulS (by decide) (by decide) (by show c.s.length * 2 ≤ _; omega) (s_gName ?_))))
    refine b70_1 (x8 := x8) (x9 := x9) (x10 := x10) (x11 := x11) F I1 ⟨?_, ?_, ?_⟩ k
    · rw [rep_length]
      show 1 ≤ 2 * c.s.length
      omega
    · rw [rep_length]
      show 2 * c.s.length ≤ 8
      omega
    · intro x hx
      unfold rep at hx
      obtain ⟨l, hl, hx⟩ := List.mem_flatten.mp hx
      rw [List.eq_of_mem_replicate hl] at hx
      exact pls x hx
end
end
end WB
namespace WB
open PySem PySem.Spec PyProof.Rows L2
theorem l70a_97_98_99_100_101_102_103_104_105_106_107_108 : ("abcdefghijkl" : Str) = S [97, 98, 99, 100, 101, 102, 103, 104, 105, 106, 107, 108] := by decide +kernel
theorem l70a_109 : ("m" : Str) = S [109] := by decide +kernel
theorem l70a_122 : ("z" : Str) = S [122] := by decide +kernel
theorem l70a_97_98 : ("ab" : Str) = S [97, 98] := by decide +kernel
theorem l70a_113_121 : ("qy" : Str) = S [113, 121] := by decide +kernel
local macro_rules | `(tactic| walk_at "lit") => `(tactic| first | exact l70a_97_98_99_100_101_102_103_104_105_106_107_108 | exact l70a_109 | exact l70a_122 | exact l70a_97_98 | exact l70a_113_121)
local macro_rules | `(tactic| walk_at "lit") => `(tactic| first | exact lit_abc | exact lit_empty)
local macro_rules | `(tactic| walk_at "nm") => `(tactic| focus first | exact List.not_mem_nil | (simp only [List.mem_singleton]; first | assumption | (exact Ne.symm (by assumption)) | (intro hz; subst hz; simp_all; done)))
local macro_rules | `(tactic| walk_at "hp") => `(tactic| first | assumption | (apply Ex.get0 (by assumption); walk_at "hp") | (apply Ex.get (by assumption); (walk_at "nm"); (walk_at "hp")))
local macro_rules | `(tactic| walk_at "sq") => `(tactic| first | assumption | (apply SqL.of; walk_at "hp") | (apply Ex.sqL (by assumption); (walk_at "nm"); (walk_at "sq")))
local macro_rules | `(tactic| walk_at "sqt") => `(tactic| first | assumption | (apply SqT.of; walk_at "hp") | (apply Ex.sqT (by assumption); (walk_at "nm"); (walk_at "sqt")))
local macro_rules | `(tactic| walk_at "sz") => `(tactic| focus ((with_reducible refine Nat.le_trans (m := 100000) ?_ (by decide)); first | omega | (simp; done) | (simp; omega)))
local macro_rules | `(tactic| walk_at "mul") => `(tactic| first | exact Or.inr ⟨by omega, by omega⟩ | exact Or.inl ⟨by omega, by omega⟩)
local macro_rules | `(tactic| walk_at "pool") => `(tactic| first | assumption | (apply PoolAt.ex (by assumption); (walk_at "nm"); (walk_at "pool")))
local macro_rules | `(tactic| walk_at "ring") => `(tactic| first | assumption | (apply RingAt.ex (by assumption); (walk_at "nm"); (walk_at "ring")))
local macro_rules | `(tactic| walk_at "st") => `(tactic| first
  | with_reducible refine s_seq ?_
  | with_reducible refine s_asg ?_
  | with_reducible refine s_gName ?_
  | with_reducible refine s_ret ?_
  | with_reducible refine s_ifS ?_
  | with_reducible refine s_next ?_
  | with_reducible refine s_op ?_
  | ((with_reducible apply s_var); exact rfl)
  | ((with_reducible apply s_cS); (walk_at "lit"))
  | with_reducible refine s_c ?_
  | with_reducible refine s_cb ?_
  | with_reducible refine s_cons ?_
  | with_reducible refine s_nil ?_
  | with_reducible refine s_un ?_
  | with_reducible refine s_call ?_
  | with_reducible refine s_test ?_
  | with_reducible refine s_tB ?_
  | with_reducible refine s_blQ ?_
  | with_reducible refine s_not ?_
  | with_reducible refine s_and ?_
  | with_reducible refine s_or ?_
  | with_reducible refine s_andV ?_
  | with_reducible refine s_orV ?_
  | with_reducible refine s_notV ?_
  | with_reducible refine s_ifE ?_
  | with_reducible refine s_chain ?_
  | ((with_reducible refine s_T ?_ ?_); (with_reducible exact rfl))
  | with_reducible refine s_nT ?_
  | with_reducible refine s_nF ?_
  | ((with_reducible refine s_F ?_ ?_); (with_reducible exact rfl))
  | ((with_reducible refine s_T ?_ ?_); assumption)
  | ((with_reducible refine s_F ?_ ?_); assumption)
  | ((with_reducible refine s_nB ?_ ?_); assumption)
  | ((with_reducible refine s_nA ?_ ?_); assumption)
  | ((with_reducible refine s_Td ?_ ?_); omega)
  | ((with_reducible refine s_Fd ?_ ?_); omega)
  | ((with_reducible refine s_nTd ?_ ?_); omega)
  | ((with_reducible refine s_nFd ?_ ?_); omega)
  | with_reducible refine s_sfld ?_
  | with_reducible refine s_addI ?_
  | with_reducible refine s_subI ?_
  | ((with_reducible refine s_mulI ?_ ?_); (walk_at "mul"))
  | ((with_reducible refine s_divI ?_ ?_); exact ⟨by omega, by omega⟩)
  | ((with_reducible refine s_modI ?_ ?_); omega)
  | ((with_reducible refine s_powI ?_ ?_); exact ⟨by decide, by decide, by decide⟩)
  | with_reducible refine s_ltI ?_
  | with_reducible refine s_leI ?_
  | with_reducible refine s_gtI ?_
  | with_reducible refine s_geI ?_
  | with_reducible refine s_negI ?_
  | with_reducible refine s_absI ?_
  | with_reducible refine s_intI ?_
  | with_reducible refine s_min2 ?_
  | with_reducible refine s_max2 ?_
  | with_reducible refine s_eqI ?_
  | with_reducible refine s_neI ?_
  | with_reducible refine s_eqS ?_
  | with_reducible refine s_neS ?_
  | with_reducible refine s_inSg ?_
  | with_reducible refine s_notInSg ?_
  | ((with_reducible refine s_addS ?_ ?_); (walk_at "sz"))
  | ((with_reducible refine s_lenS ?_ ?_); (walk_at "sz"))
  | ((with_reducible apply s_lenL); (walk_at "sq"))
  | ((with_reducible apply s_lenT); (walk_at "sqt"))
  | ((with_reducible apply s_ixL); (walk_at "sq"); exact rfl)
  | ((with_reducible apply s_ixT); (walk_at "sqt"); exact rfl)
  | with_reducible refine s_gSub ?_
  | ((with_reducible apply s_setL); (walk_at "hp"); (exact rfl); (intro _ _ _))
  | ((with_reducible refine s_alloc ?_ ?_); (walk_at "sz"); (intro _ _ _ _ _))
  | ((with_reducible refine s_divmod ?_ ?_); (exact ⟨by omega, PyProof.noPylong_small (by omega)⟩); (intro _ _ _ _ _))
  | ((with_reducible apply s_gTup); (walk_at "sqt"); (exact rfl))
  | ((with_reducible apply s_gLst); (walk_at "sq"); (exact rfl))
  | with_reducible refine s_gCons ?_
  | with_reducible refine s_gNil ?_
  | with_reducible refine s_lc ?_
  | ((with_reducible apply s_cat); (walk_at "hp"); (walk_at "hp"); (walk_at "sz"); (intro _ _ _ _ _))
  | ((with_reducible apply s_slL); (walk_at "sq"); (intro _ _ _ _ _))
  | with_reducible refine s_for ?_
  | with_reducible refine s_rng1 ?_
  | ((with_reducible refine s_rng1i ?_ ?_); (constructor <;> omega))
  | with_reducible refine s_rng2 ?_
  | ((with_reducible refine s_rng2i ?_ ?_); (refine ⟨?_, ?_, ?_, ?_⟩ <;> omega))
  | with_reducible refine s_iStr ?_
  | with_reducible refine s_iStrS ?_
  | with_reducible refine s_iList ?_
  | ((with_reducible apply s_iListA); (walk_at "sq"))
  | with_reducible refine s_iTup ?_
  | ((with_reducible apply s_iTupA); (walk_at "sqt"))
  | with_reducible refine s_sl ?_
  | with_reducible refine s_noPart ?_
  | with_reducible refine s_part ?_
  | with_reducible refine s_int1 ?_
  | ((with_reducible refine s_slS ?_ ?_); (walk_at "sz"))
  | with_reducible refine s_tup ?_
  | with_reducible refine s_lst ?_
  | with_reducible refine s_par ?_
  | with_reducible refine s_pair ?_
  | with_reducible refine s_M1 ?_
  | with_reducible refine s_isStr ?_
  | with_reducible refine s_revS ?_
  | ((with_reducible refine s_revS1 ?_ ?_); (walk_at "sz"))
  | with_reducible refine s_fldE ?_
  | with_reducible refine s_propE ?_
  | ((with_reducible refine u_draw ?_ ?_ ?_ ?_); omega; omega; (walk_at "pool"); (intro _ _ _ _ _ _))
  | ((with_reducible refine u_pool ?_); (intro _ _ _ _ _))
  | with_reducible refine u_is_integer ?_
  | with_reducible refine s_isiII ?_
  | with_reducible refine s_isiIB ?_
  | with_reducible refine s_isiSS ?_
  | ((with_reducible apply u_fldRing); assumption; (walk_at "ring"))
  | ((with_reducible apply u_textP); (walk_at "ring"))
  | ((with_reducible apply u_strRing); (walk_at "ring"))
  | ((with_reducible apply u_eqRing); (walk_at "ring"); (walk_at "ring"))
  | ((with_reducible apply u_isiRing); assumption; (walk_at "ring"))
  | ((with_reducible refine u_is_word ?_ ?_); omega; (intro _ _))
  | ((with_reducible refine u_turnings ?_ ?_); omega; (intro _ _ _ _ _))
  | with_reducible refine s_makeE ?_
  | with_reducible refine s_methE ?_)
local macro_rules | `(tactic| walk_at "go") => `(tactic| repeat (walk_at "st"))
local macro_rules | `(tactic| walk_at "exs") => `(tactic| first | exact Ex.rfl | assumption | (apply Ex.snoc (by assumption); walk_at "exs") | (apply Ex.snocW (by assumption); walk_at "exs"))
local macro_rules | `(tactic| walk_at "st") => `(tactic| first
  | ((with_reducible refine u_pick7 ?_ ?_ ?_ ?_); omega; omega; (walk_at "pool"); (intro _ _ _ _ _ _))
  | ((with_reducible refine u_amount7 ?_ ?_); (walk_at "pool"); (intro _ _ _ _ _)))
def t_law7_cell (K : PySem.W.Frag) : TS :=
  (tSeq (tIfS (tTest (tOp rLtI (tVar 1) (tCB (rLenV K) (tCons (tVar 0) tNil)))) (tRet (tOp (rIxL K) (tVar 0) (tVar 1))) tNext)
  (tSeq (tAsg (tOp rAddI (tC (.int 30011)) (tOp rMulI (tC (.int 7)) (tVar 1))) (gName 2))
  (tSeq (tFor (iList K (tSl (rSlL K) (tVar 0) tNoPart (tPart (tC (.int 4))))) (gName 3) (tAsg (tOp rModI (tCB rIntI (tCons (tOp rAddI (tOp rAddI (tOp rMulI (tVar 2) (tC (.int 48619))) (tOp rModI (tCB rIntI (tCons (tVar 3) tNil)) (tC (.int 998244353)))) (tC (.int 977))) tNil)) (tC (.int 2147483489))) (gName 2)))
  (tRet (tVar 2)))))
def t_law7_purse (K : PySem.W.Frag) : TS :=
  (tSeq (tAsg (tCB rIntI (tCons (tVar 0) tNil)) (gName 1))
  (tSeq (tAsg (tIf (tOr (tTest (tOp rLtI (tVar 1) (tC (.int 0)))) (tTest (tOp rGeI (tVar 1) (tOp rPowI (tC (.int 10)) (tC (.int 18)))))) (tCB rAbsI (tCons (tVar 1) tNil)) (tC (.int 0))) (gName 2))
  (tRet (tLst (tCons (tOp rModI (tCB rIntI (tCons (tVar 1) tNil)) (tC (.int 2147483489))) (tCons (tVar 2) (tCons (tC (.int 0)) tNil)))))))
def t_law7_pick (K : PySem.W.Frag) : TS :=
  (tSeq (tAsg (tOp rAddI (tOp (rIxL K) (tVar 0) (tC (.int 2))) (tC (.int 1))) (gSub (tVar 0) (tC (.int 2)) rSetL))
  (tSeq (tAsg (tCB rIntI (tCons (tOp (rIxL K) (tVar 0) (tC (.int 0))) tNil)) (gName 2))
  (tSeq (tAsg (tOp rModI (tCB rIntI (tCons (tOp rAddI (tOp rAddI (tOp rMulI (tVar 2) (tOp rAddI (tOp rModI (tCB rIntI (tCons (tVar 2) tNil)) (tC (.int 31013))) (tC (.int 20011)))) (tOp rMulI (tC (.int 90007)) (tOp (rIxL K) (tVar 0) (tC (.int 2))))) (tC (.int 17))) tNil)) (tC (.int 2147483489))) (gName 2))
  (tSeq (tAsg (tVar 2) (gSub (tVar 0) (tC (.int 0)) rSetL))
  (tSeq (tIfS (tTest (tOp rGtI (tOp (rIxL K) (tVar 0) (tC (.int 1))) (tC (.int 0)))) (tSeq (tAsg (tCB rDivmod (tCons (tOp (rIxL K) (tVar 0) (tC (.int 1))) (tCons (tVar 1) tNil))) (gTup K 2 (gCons (gSub (tVar 0) (tC (.int 1)) rSetL) (gCons (gName 3) gNil))))
  (tRet (tVar 3))) tNext)
  (tRet (tOp rModI (tCB rIntI (tCons (tOp rDivI (tVar 2) (tC (.int 127))) tNil)) (tVar 1))))))))
def t_law7_amount (K : PySem.W.Frag) : TS :=
  (tSeq (tAsg (tCall (sp_law7_pick K) [] E0 (tCons (tVar 0) (tCons (tC (.int 8)) tNil))) (gName 1))
  (tSeq (tIfS (tTest (tOp rLtI (tVar 1) (tC (.int 3)))) (tRet (tC (.int 0))) tNext)
  (tSeq (tIfS (tTest (tOp rLtI (tVar 1) (tC (.int 7)))) (tRet (tOp rSubI (tCall (sp_law7_pick K) [] E0 (tCons (tVar 0) (tCons (tC (.int 7)) tNil))) (tC (.int 3)))) tNext)
  (tRet (tOp (rIxL K) (tLst (tCons (tOp rPowI (tC (.int 10)) (tC (.int 12))) (tCons (tOp rSubI (tOp rSubI (tC (.int 0)) (tOp rPowI (tC (.int 10)) (tC (.int 12)))) (tC (.int 1))) (tCons (tC (.int 40)) (tCons (tOp rSubI (tC (.int 0)) (tC (.int 25))) tNil))))) (tCall (sp_law7_pick K) [] E0 (tCons (tVar 0) (tCons (tC (.int 4)) tNil))))))))
def t_law7_signs (K : PySem.W.Frag) : TS :=
  (tSeq (tAsg (tOp rIxS (tC (.str "abcdefghijkl")) (tCall (sp_law7_pick K) [] E0 (tCons (tVar 0) (tCons (tC (.int 12)) tNil)))) (gName 1))
  (tRet (tOp (rIxL K) (tLst (tCons (tVar 1) (tCons (tOp rAddS (tVar 1) (tC (.str "m"))) (tCons (tOp rAddS (tVar 1) (tC (.str "z"))) (tCons (tC (.str "ab")) (tCons (tOp rAddS (tVar 1) (tC (.str "qy"))) tNil)))))) (tCall (sp_law7_pick K) [] E0 (tCons (tVar 0) (tCons (tC (.int 5)) tNil))))))
section
variable {K : PySem.W.Frag} {vs : List V} {H : Hp} {Q : VK} {E : XK}
theorem pure_law7_cell (h : sp_law7_cell K vs H Q E) : t_law7_cell K (E1 Q) (start ["_law_cells", "_law_at", "_law_mixed", "_law_each"] vs) H := by
  obtain ⟨a, ns, n, rfl, hs, hl, h0, h1, k⟩ := h
  show t_law7_cell K (E1 Q) [some (.ref a), some (.int n), none, none] H
  unfold t_law7_cell
  walk_at "go"
  refine s_2 (fun hb => ?_) (fun hb => ?_)
  · have hb := of_decide_eq_true hb
    rw [List.length_map] at hb
    have hx : ns[n.toNat]? = some (ns[n.toNat]'(by omega)) := List.getElem?_eq_getElem _
    walk_at "go"
    refine s_ixL hs (atI_of h0 (by rw [List.getElem?_map, hx]; rfl)) ?_
    exact k _ _ Ex.rfl
  · walk_at "go"
    rename_i p H2 hp e2 h2
    refine for_run walk_list (fun i σ H1 => ∃ (c : Int) (x : Option V), σ = [some (.ref a), some (.int n), some (.int c), x] ∧ Ex [] H H1 ∧ H1 p = some (.lst (cutV (ns.map V.int) none (some 4)))) ⟨_, none, rfl, e2, h2⟩ (fun i σ H1 _ ⟨_, _, _, _, h⟩ => SqL.of h) ?_ ?_
    · rintro i x σ H1 H3 hi ⟨c, y, rfl, e, hc⟩ ⟨rfl, hx⟩
      obtain ⟨z, _, rfl⟩ := List.mem_map.mp (mem_cutV (List.mem_of_getElem? hx))
      walk_at "go"
      exact ⟨_, _, rfl, e, hc⟩
    · rintro σ H1 ⟨c, y, rfl, e, hc⟩
      walk_at "go"
      exact k _ _ e
theorem pure_law7_purse (h : sp_law7_purse K vs H Q E) : t_law7_purse K (E1 Q) (start ["_law_cell_here", "_law_start", "_law_digits"] vs) H := by
  obtain ⟨c, rfl, k⟩ := h
  show t_law7_purse K (E1 Q) [some (.int c), none, none] H
  unfold t_law7_purse
  walk_at "go"
  refine s_2 (fun hb => ?_) (fun hb => ?_)
  · walk_at "go"
    exact k _ _ (by assumption) (by walk_at "exs") ⟨_, _, _, by walk_at "hp"⟩
  · walk_at "go"
    refine s_2 (fun hb => ?_) (fun hb => ?_)
    · walk_at "go"
      exact k _ _ (by assumption) (by walk_at "exs") ⟨_, _, _, by walk_at "hp"⟩
    · walk_at "go"
      exact k _ _ (by assumption) (by walk_at "exs") ⟨_, _, _, by walk_at "hp"⟩
theorem pure_law7_pick (h : sp_law7_pick K vs H Q E) : t_law7_pick K (E1 Q) (start ["_law_purse_here", "_law_many", "_law_mixed", "_law_digit"] vs) H := by
  obtain ⟨a, m, rfl, h0, h1, ⟨x, y, z, hp⟩, k⟩ := h
  show t_law7_pick K (E1 Q) [some (.ref a), some (.int m), none, none] H
  unfold t_law7_pick
  walk_at "go"
  refine s_2 (fun hb => ?_) (fun hb => ?_)
  · walk_at "go"
    exact k _ _ (Int.emod_nonneg _ (by omega)) (Int.emod_lt_of_pos _ h0) (by walk_at "exs") ⟨_, _, _, by walk_at "hp"⟩
  · walk_at "go"
    exact k _ _ (Int.emod_nonneg _ (by omega)) (Int.emod_lt_of_pos _ h0) (by walk_at "exs") ⟨_, _, _, by walk_at "hp"⟩
theorem pure_law7_amount (h : sp_law7_amount K vs H Q E) : t_law7_amount K (E1 Q) (start ["_law_purse_here", "_law_way"] vs) H := by
  obtain ⟨a, rfl, hp, k⟩ := h
  show t_law7_amount K (E1 Q) [some (.ref a), none] H
  unfold t_law7_amount
  have hB : 10000000000000 ≤ 2 ^ 49 := by decide
  have c12 : (10 : Int) ^ (12 : Int).toNat = 1000000000000 := by decide
  walk_at "go"
  rename_i r H1 r0 r1 e1 p1
  refine s_2 (fun hb => ?_) (fun hb => ?_)
  · walk_at "go"
    exact k _ _ (by decide) e1 p1
  walk_at "go"
  refine s_2 (fun hb2 => ?_) (fun hb2 => ?_)
  · walk_at "go"
    rename_i r2 H2 r20 r21 e2 p2
    refine k _ _ ?_ (e1.trans e2) p2
    omega
  walk_at "go"
  rename_i l H2 nl e2 z2 r3 H3 r30 r31 e3 p3
  have hla : l ≠ a := fun z => p1.there (z ▸ nl)
  have z3 := e3.get (by simpa using hla) z2
  have e13 : Ex [a] H H3 := e1.trans (e2.wide.trans e3)
  have hr : r3 = 0 ∨ r3 = 1 ∨ r3 = 2 ∨ r3 = 3 := by omega
  rw [c12] at z3
  rcases hr with rfl | rfl | rfl | rfl
  · exact s_ixL (SqL.of z3) rfl (k _ _ (by decide) e13 p3)
  · exact s_ixL (SqL.of z3) rfl (k _ _ (by decide) e13 p3)
  · exact s_ixL (SqL.of z3) rfl (k _ _ (by decide) e13 p3)
  · exact s_ixL (SqL.of z3) rfl (k _ _ (by decide) e13 p3)
theorem sgn_of_asc {s : List Nat} (h : s.Pairwise (· < ·)) : sgn s = s := by
  have h2 : (s.map fun c => [c]).Pairwise (· ≤ ·) := List.pairwise_map.mpr (h.imp fun {a b} hab => by
    show ([a] : List Nat) ≤ [b]
    exact Nat.le_of_lt hab |> fun z => by
      rw [List.cons_le_cons_iff]
      exact .inl hab)
  unfold sgn
  rw [srt_id h2, flat1]
theorem sg7_ok : ∀ (i : Nat), i < 12 → ∀ (j : Nat), j < 5 → Sg7 (([[97 + i], [97 + i, 109], [97 + i, 122], [97, 98], [97 + i, 113, 121]] : List (List Nat)).getD j []) := by
  intro i hi j hj
  have gs : ∀ {s : List Nat}, s.length ≤ 3 → 1 ≤ s.length → (∀ c ∈ s, c ∈ LET) → s.Pairwise (· < ·) → 114 ∉ s → Sg7 s := fun {s} h1 h2 h3 h4 h5 => by
    have nd : s.Nodup := h4.imp fun h => Nat.ne_of_lt h
    refine ⟨⟨?_, by omega, nd⟩, sgn_of_asc h4, h1, h5⟩
    exact isWord_mk h2 (by omega) h3
  have le : ∀ k, k < 26 → 97 + k ∈ LET := by decide
  rcases (by omega : j = 0 ∨ j = 1 ∨ j = 2 ∨ j = 3 ∨ j = 4) with rfl | rfl | rfl | rfl | rfl
  · refine gs (s := [97 + i]) (by simp) (by simp) (fun c hc => ?_) (List.pairwise_singleton _ _) ?_
    · rw [List.mem_singleton.mp hc]; exact le _ (by omega)
    · simp; omega
  · refine gs (s := [97 + i, 109]) (by simp) (by simp) (fun c hc => ?_) (by simp; omega) (by simp; omega)
    simp only [List.mem_cons, List.not_mem_nil, or_false] at hc
    rcases hc with rfl | rfl
    · exact le _ (by omega)
    · decide
  · refine gs (s := [97 + i, 122]) (by simp) (by simp) (fun c hc => ?_) (by simp; omega) (by simp; omega)
    simp only [List.mem_cons, List.not_mem_nil, or_false] at hc
    rcases hc with rfl | rfl
    · exact le _ (by omega)
    · decide
  · exact gs (s := [97, 98]) (by decide) (by decide) (by decide) (by decide) (by decide)
  · refine gs (s := [97 + i, 113, 121]) (by simp) (by simp) (fun c hc => ?_) (by simp; omega) (by simp; omega)
    simp only [List.mem_cons, List.not_mem_nil, or_false] at hc
    rcases hc with rfl | rfl | rfl
    · exact le _ (by omega)
    · decide
    · decide
theorem pure_law7_signs (h : sp_law7_signs K vs H Q E) : t_law7_signs K (E1 Q) (start ["_law_purse_here", "_law_first"] vs) H := by
  obtain ⟨a, rfl, hp, k⟩ := h
  show t_law7_signs K (E1 Q) [some (.ref a), none] H
  unfold t_law7_signs
  walk_at "go"
  rename_i r H1 r0 r1 e1 p1
  obtain ⟨i, rfl⟩ := Int.eq_ofNat_of_zero_le r0
  have hi : i < 12 := by omega
  have hix : atI ([97, 98, 99, 100, 101, 102, 103, 104, 105, 106, 107, 108] : List Nat) ((i : Nat) : Int) = some (97 + i) := atI_of (by omega) (by
    rw [Int.toNat_natCast]
    have : ∀ j, j < 12 → ([97, 98, 99, 100, 101, 102, 103, 104, 105, 106, 107, 108] : List Nat)[j]? = some (97 + j) := by decide
    exact this i hi)
  refine s_ixS (by rw [sizeLine_eq]; simp) hix ?_
  walk_at "go"
  rename_i l H2 nl e2 z2 r3 H3 r30 r31 e3 p3
  have hla : l ≠ a := fun z => p1.there (z ▸ nl)
  have z3 := e3.get (by simpa using hla) z2
  have e13 : Ex [a] H H3 := e1.trans (e2.wide.trans e3)
  have key := sg7_ok i hi r3.toNat (by omega)
  have hr : r3 = 0 ∨ r3 = 1 ∨ r3 = 2 ∨ r3 = 3 ∨ r3 = 4 := by omega
  rcases hr with rfl | rfl | rfl | rfl | rfl
  · exact s_ixL (SqL.of z3) rfl (k _ _ key e13 p3)
  · exact s_ixL (SqL.of z3) rfl (k _ _ key e13 p3)
  · exact s_ixL (SqL.of z3) rfl (k _ _ key e13 p3)
  · exact s_ixL (SqL.of z3) rfl (k _ _ key e13 p3)
  · exact s_ixL (SqL.of z3) rfl (k _ _ key e13 p3)
end
end WB
namespace WB
open PySem PySem.Spec PyProof.Rows L2
local macro_rules | `(tactic| walk_at "lit") => `(tactic| first | exact lit_abc | exact lit_empty)
local macro_rules | `(tactic| walk_at "nm") => `(tactic| focus first | exact List.not_mem_nil | (simp only [List.mem_singleton]; first | assumption | (exact Ne.symm (by assumption)) | (intro hz; subst hz; simp_all; done)))
local macro_rules | `(tactic| walk_at "hp") => `(tactic| first | assumption | (apply Ex.get0 (by assumption); walk_at "hp") | (apply Ex.get (by assumption); (walk_at "nm"); (walk_at "hp")))
local macro_rules | `(tactic| walk_at "sq") => `(tactic| first | assumption | (apply SqL.of; walk_at "hp") | (apply Ex.sqL (by assumption); (walk_at "nm"); (walk_at "sq")))
local macro_rules | `(tactic| walk_at "sqt") => `(tactic| first | assumption | (apply SqT.of; walk_at "hp") | (apply Ex.sqT (by assumption); (walk_at "nm"); (walk_at "sqt")))
local macro_rules | `(tactic| walk_at "sz") => `(tactic| focus ((with_reducible refine Nat.le_trans (m := 100000) ?_ (by decide)); first | omega | (simp; done) | (simp; omega)))
local macro_rules | `(tactic| walk_at "mul") => `(tactic| first | exact Or.inr ⟨by omega, by omega⟩ | exact Or.inl ⟨by omega, by omega⟩)
local macro_rules | `(tactic| walk_at "pool") => `(tactic| first | assumption | (apply PoolAt.ex (by assumption); (walk_at "nm"); (walk_at "pool")))
local macro_rules | `(tactic| walk_at "ring") => `(tactic| first | assumption | (apply RingAt.ex (by assumption); (walk_at "nm"); (walk_at "ring")))
local macro_rules | `(tactic| walk_at "st") => `(tactic| first
  | with_reducible refine s_seq ?_
  | with_reducible refine s_asg ?_
  | with_reducible refine s_gName ?_
  | with_reducible refine s_ret ?_
  | with_reducible refine s_ifS ?_
  | with_reducible refine s_next ?_
  | with_reducible refine s_op ?_
  | ((with_reducible apply s_var); exact rfl)
  | ((with_reducible apply s_cS); (walk_at "lit"))
  | with_reducible refine s_c ?_
  | with_reducible refine s_cb ?_
  | with_reducible refine s_cons ?_
  | with_reducible refine s_nil ?_
  | with_reducible refine s_un ?_
  | with_reducible refine s_call ?_
  | with_reducible refine s_test ?_
  | with_reducible refine s_tB ?_
  | with_reducible refine s_blQ ?_
  | with_reducible refine s_not ?_
  | with_reducible refine s_and ?_
  | with_reducible refine s_or ?_
  | with_reducible refine s_andV ?_
  | with_reducible refine s_orV ?_
  | with_reducible refine s_notV ?_
  | with_reducible refine s_ifE ?_
  | with_reducible refine s_chain ?_
  | ((with_reducible refine s_T ?_ ?_); (with_reducible exact rfl))
  | with_reducible refine s_nT ?_
  | with_reducible refine s_nF ?_
  | ((with_reducible refine s_F ?_ ?_); (with_reducible exact rfl))
  | ((with_reducible refine s_T ?_ ?_); assumption)
  | ((with_reducible refine s_F ?_ ?_); assumption)
  | ((with_reducible refine s_nB ?_ ?_); assumption)
  | ((with_reducible refine s_nA ?_ ?_); assumption)
  | ((with_reducible refine s_Td ?_ ?_); omega)
  | ((with_reducible refine s_Fd ?_ ?_); omega)
  | ((with_reducible refine s_nTd ?_ ?_); omega)
  | ((with_reducible refine s_nFd ?_ ?_); omega)
  | with_reducible refine s_sfld ?_
  | with_reducible refine s_addI ?_
  | with_reducible refine s_subI ?_
  | ((with_reducible refine s_mulI ?_ ?_); (walk_at "mul"))
  | ((with_reducible refine s_divI ?_ ?_); exact ⟨by omega, by omega⟩)
  | ((with_reducible refine s_modI ?_ ?_); omega)
  | ((with_reducible refine s_powI ?_ ?_); exact ⟨by decide, by decide, by decide⟩)
  | with_reducible refine s_ltI ?_
  | with_reducible refine s_leI ?_
  | with_reducible refine s_gtI ?_
  | with_reducible refine s_geI ?_
  | with_reducible refine s_negI ?_
  | with_reducible refine s_absI ?_
  | with_reducible refine s_intI ?_
  | with_reducible refine s_min2 ?_
  | with_reducible refine s_max2 ?_
  | with_reducible refine s_eqI ?_
  | with_reducible refine s_neI ?_
  | with_reducible refine s_eqS ?_
  | with_reducible refine s_neS ?_
  | with_reducible refine s_inSg ?_
  | with_reducible refine s_notInSg ?_
  | ((with_reducible refine s_addS ?_ ?_); (walk_at "sz"))
  | ((with_reducible refine s_lenS ?_ ?_); (walk_at "sz"))
  | ((with_reducible apply s_lenL); (walk_at "sq"))
  | ((with_reducible apply s_lenT); (walk_at "sqt"))
  | ((with_reducible apply s_ixL); (walk_at "sq"); exact rfl)
  | ((with_reducible apply s_ixT); (walk_at "sqt"); exact rfl)
  | with_reducible refine s_gSub ?_
  | ((with_reducible apply s_setL); (walk_at "hp"); (exact rfl); (intro _ _ _))
  | ((with_reducible refine s_alloc ?_ ?_); (walk_at "sz"); (intro _ _ _ _ _))
  | ((with_reducible refine s_divmod ?_ ?_); (exact ⟨by omega, PyProof.noPylong_small (by omega)⟩); (intro _ _ _ _ _))
  | ((with_reducible apply s_gTup); (walk_at "sqt"); (exact rfl))
  | ((with_reducible apply s_gLst); (walk_at "sq"); (exact rfl))
  | with_reducible refine s_gCons ?_
  | with_reducible refine s_gNil ?_
  | with_reducible refine s_lc ?_
  | ((with_reducible apply s_cat); (walk_at "hp"); (walk_at "hp"); (walk_at "sz"); (intro _ _ _ _ _))
  | ((with_reducible apply s_slL); (walk_at "sq"); (intro _ _ _ _ _))
  | with_reducible refine s_for ?_
  | with_reducible refine s_rng1 ?_
  | ((with_reducible refine s_rng1i ?_ ?_); (constructor <;> omega))
  | with_reducible refine s_rng2 ?_
  | ((with_reducible refine s_rng2i ?_ ?_); (refine ⟨?_, ?_, ?_, ?_⟩ <;> omega))
  | with_reducible refine s_iStr ?_
  | with_reducible refine s_iStrS ?_
  | with_reducible refine s_iList ?_
  | ((with_reducible apply s_iListA); (walk_at "sq"))
  | with_reducible refine s_iTup ?_
  | ((with_reducible apply s_iTupA); (walk_at "sqt"))
  | with_reducible refine s_sl ?_
  | with_reducible refine s_noPart ?_
  | with_reducible refine s_part ?_
  | with_reducible refine s_int1 ?_
  | ((with_reducible refine s_slS ?_ ?_); (walk_at "sz"))
  | with_reducible refine s_tup ?_
  | with_reducible refine s_lst ?_
  | with_reducible refine s_par ?_
  | with_reducible refine s_pair ?_
  | with_reducible refine s_M1 ?_
  | with_reducible refine s_isStr ?_
  | with_reducible refine s_revS ?_
  | ((with_reducible refine s_revS1 ?_ ?_); (walk_at "sz"))
  | with_reducible refine s_fldE ?_
  | with_reducible refine s_propE ?_
  | ((with_reducible refine u_draw ?_ ?_ ?_ ?_); omega; omega; (walk_at "pool"); (intro _ _ _ _ _ _))
  | ((with_reducible refine u_pool ?_); (intro _ _ _ _ _))
  | with_reducible refine u_is_integer ?_
  | with_reducible refine s_isiII ?_
  | with_reducible refine s_isiIB ?_
  | with_reducible refine s_isiSS ?_
  | ((with_reducible apply u_fldRing); assumption; (walk_at "ring"))
  | ((with_reducible apply u_textP); (walk_at "ring"))
  | ((with_reducible apply u_strRing); (walk_at "ring"))
  | ((with_reducible apply u_eqRing); (walk_at "ring"); (walk_at "ring"))
  | ((with_reducible apply u_isiRing); assumption; (walk_at "ring"))
  | ((with_reducible refine u_is_word ?_ ?_); omega; (intro _ _))
  | ((with_reducible refine u_turnings ?_ ?_); omega; (intro _ _ _ _ _))
  | with_reducible refine s_makeE ?_
  | with_reducible refine s_methE ?_)
local macro_rules | `(tactic| walk_at "go") => `(tactic| repeat (walk_at "st"))
local macro_rules | `(tactic| walk_at "exs") => `(tactic| first | exact Ex.rfl | assumption | (apply Ex.snoc (by assumption); walk_at "exs") | (apply Ex.snocW (by assumption); walk_at "exs"))
local macro_rules | `(tactic| walk_at "kind") => `(tactic| first | assumption | (apply KindAt.ex0 (by assumption); (walk_at "kind")) | (apply KindAt.exP (by assumption) (by assumption); (walk_at "kind")))
local macro_rules | `(tactic| walk_at "st") => `(tactic| first
  | with_reducible refine s_lenSet ?_
  | with_reducible refine s_drop ?_
  | with_reducible refine s_bm ?_
  | with_reducible refine s_notN ?_
  | with_reducible refine s_isN ?_
  | ((with_reducible apply s_tyL); (walk_at "hp"))
  | with_reducible refine s_enumT ?_
  | ((with_reducible apply s_enumTA); (walk_at "sqt"))
  | with_reducible refine s_lc2 ?_)
local macro_rules | `(tactic| walk_at "lit") => `(tactic| exact lit_MRK)
local macro_rules | `(tactic| walk_at "st") => `(tactic| first
  | with_reducible refine s_dcT ?_
  | with_reducible refine s_dc ?_)
local macro_rules | `(tactic| walk_at "lit") => `(tactic| exact lit_z)
def t_Loop_made (K : PySem.W.Frag) : TS :=
  (tSeq (tIfS (tNot (tB (tCall (sp_is_row K) [] E0 (tCons (tVar 1) (tCons (tC (.int 5)) tNil))))) tNever tNext)
  (tSeq (tAsg (tMakeLK 0 (He.ga K "Loop") 4 1 (sp_Loop_init K) (fun vs zs => selG [(0, 0), (0, 1), (0, 2), (0, 3), (0, 4), (2, 0)] vs [(.ref (He.dflAt ("Loop", some "__init__") 0 K))] [] zs) E0 (tCons (tOp (rIxT K) (tVar 1) (tC (.int 0))) (tCons (tOp (rIxT K) (tVar 1) (tC (.int 1))) (tCons (tOp (rIxT K) (tVar 1) (tC (.int 2))) (tCons (tOp (rIxT K) (tVar 1) (tC (.int 3))) tNil)))) (tCons (tOp (rIxT K) (tVar 1) (tC (.int 4))) tNil)) (gName 2))
  (tSeq (tIfS (tTest (tOp (rNeD K) (tProp (He.ga K "Loop") (sp_Loop_row K) [] E0 (tVar 2)) (tVar 1))) tNever tNext)
  (tRet (tVar 2)))))
section
variable {K : PySem.W.Frag} {vs : List V} {H H1 : Hp} {Q : VK} {E : XK}
theorem pure_Loop_made (F : LoopK K) (h : sp_Loop_made K vs H Q E) : t_Loop_made K (E1 Q) (start ["cls", "row", "loop"] vs) H := by
  obtain ⟨q, rfl, M, hq, g, k⟩ := h
  show t_Loop_made K (E1 Q) [some (.ref (He.ga K "Loop")), some (.ref q), none] H
  unfold t_Loop_made
  obtain ⟨o, r, t, y, h1, h2, h3, h4, h5⟩ := id hq
  walk_at "go"
  refine u_row h1 ?_
  walk_at "go"
  refine s_nFd rfl ?_
  walk_at "go"
  refine s_makeLK rfl ?_
  walk_at "go"
  refine mk_loopG (M' := M) (st := M.st) (rs := rwsOf M) (ts := tnsOf M) (ys := M.ok) (s := M.ab) rfl rfl (fun x => rfl) g.g.ab h2 g.g.st h3 (good_rws g.g) h4 (good_tns g.g) h5 ⟨g.g.ok, ?_⟩ g.s.symm rfl (fun a ha c hc => ?_) (fun a ha => (en_tns a ha).symm) g.f.symm fun x H1 e1 hx => ?_
  · rw [← g.f]; exact g.g.st.2.2.1.sublist List.filter_sublist
  · rw [g.s] at hc; exact (tb_rws a ha c hc).symm
  walk_at "go"
  refine u_lrow hx g.g fun p H2 e2 r2 => ?_
  walk_at "go"
  refine s_neDd (n := 3) (m := 3) (by decide) (dd_row (n := 0) g.g (ok_len g) r2) (dd_row (n := 0) g.g (ok_len g) (hq.ex0 (e1.trans e2))) ?_
  walk_at "go"
  exact k x H2 (e1.trans e2) (hx.ex0 e2)
end
end WB
namespace WB
open PySem PySem.Spec PyProof.Rows L2
theorem l70_97_98 : ("ab" : Str) = S [97, 98] := by decide +kernel
theorem l70_100_105_102_102_101_114 : ("differ" : Str) = S [100, 105, 102, 102, 101, 114] := by decide +kernel
def t_law7_right (K : PySem.W.Frag) (w : World) : TS :=
  (tSeq (tAsg (tCall (sp_law7_signs K) [] E0 (tCons (tVar 0) tNil)) (gName 1))
  (tSeq (tPar 2 3 (tCons (tCall (sp_law7_pairs K) [] E0 (tCons (tVar 0) (tCons (tVar 1) tNil))) (tCons (tCall (sp_law7_model K) [] E0 (tCons (tVar 0) (tCons (tCall (sp_law7_wider K) [] E0 (tCons (tVar 0) (tCons (tVar 1) tNil))) (tCons (tC (.int 3)) tNil)))) tNil)))
  (tSeq (tPar 4 5 (tCons (tLst (tCons (tCall (sp_law7_row K) [] E0 (tCons (tVar 3) (tCons (tCall (sp_law7_tags K) [] E0 (tCons (tVar 0) (tCons (tOp (rIxT K) (tVar 3) (tC (.int 1))) tNil))) tNil))) (tCons (tTup (tCons (tVar 1) (tCons (tCB (rTupOf K) (tCons (tVar 2) tNil)) tNil))) tNil))) (tCons (tCall (sp_law7_words K) [] E0 (tCons (tVar 1) (tCons (tVar 2) (tCons (tC (.int 4)) tNil)))) tNil)))
  (tSeq (tFor (iRng1 (tCons (tC (.int 5)) tNil)) (gName 6) (tSeq (tAsg (tIf (tTest (tOp (rNeD K) (tVar 5) (tLst tNil))) (tOp (rIxL K) (tVar 5) (tCall (sp_law7_pick K) [] E0 (tCons (tVar 0) (tCons (tCB (rLenV K) (tCons (tVar 5) tNil)) tNil)))) (tOp rMulS (tVar 1) (tC (.int 2)))) (gName 7))
  (tSeq (tIfS (tTest (tOp rEq (tCall (sp_law7_pick K) [] E0 (tCons (tVar 0) (tCons (tC (.int 9)) tNil))) (tC (.int 0)))) (tAsg (tOp rMulS (tVar 7) (tOp rAddI (tOp rDivI (tC (.int 600)) (tCB (rLenV K) (tCons (tVar 7) tNil))) (tCall (sp_law7_pick K) [] E0 (tCons (tVar 0) (tCons (tC (.int 2)) tNil))))) (gName 7)) tNext)
  (tSeq (tIfS (tTest (tOp rEq (tCall (sp_law7_pick K) [] E0 (tCons (tVar 0) (tCons (tC (.int 9)) tNil))) (tC (.int 0)))) (tAsg (tOp rAddS (tOp rAddS (tVar 7) (tOp rIxS (tVar 1) (tCall (sp_law7_pick K) [] E0 (tCons (tVar 0) (tCons (tCB (rLenV K) (tCons (tVar 1) tNil)) tNil))))) (tSl rSlS (tC (.str "ab")) tNoPart (tPart (tCall (sp_law7_pick K) [] E0 (tCons (tVar 0) (tCons (tC (.int 3)) tNil)))))) (gName 7)) tNext)
  (tSeq (tAsg (tCall (sp_law7_pick K) [] E0 (tCons (tVar 0) (tCons (tCB (rLenV K) (tCons (tVar 7) tNil)) tNil))) (gName 8))
  (tSeq (tPar 10 11 (tCons (tTup (tCons (tVar 7) (tCons (tOp rAddS (tSl rSlS (tVar 7) (tPart (tVar 8)) tNoPart) (tSl rSlS (tVar 7) tNoPart (tPart (tVar 8)))) (tCons (tCall (sp_law7_lap K) [] E0 (tCons (tVar 0) tNil)) tNil)))) (tCons (tTup tNil) tNil)))
  (tSeq (tIfS (tTest (tOp rEq (tCall (sp_law7_pick K) [] E0 (tCons (tVar 0) (tCons (tC (.int 3)) tNil))) (tC (.int 0)))) (tAsg (tCall (sp_law7_bent K 3) [] E0 (tCons (tVar 0) (tCons (tVar 10) tNil))) (gName 10)) tNext)
  (tSeq (tIfS (tTest (tOp rEq (tCall (sp_law7_pick K) [] E0 (tCons (tVar 0) (tCons (tC (.int 6)) tNil))) (tC (.int 0)))) (tAsg (tCall (sp_law7_odd K) [] E0 (tCons (tVar 0) tNil)) (gName 11)) tNext)
  (tSeq (tAsg (tOp (rCatA K) (tTup (tCons (tC (.str "differ")) (tCons (tOp (rIxL K) (tVar 4) (tC (.int 0))) (tCons (tOp (rIxL K) (tVar 4) (tC (.int 1))) tNil)))) (tIf (tB (tCB (rIsi K) (tCons (tVar 10) (tCons (tC (.ty "tuple")) tNil)))) (tVar 10) (tTup (tCons (tVar 10) tNil)))) (gName 9))
  (tIfS (tNot (tB (tCall (sp_law7_accepted K w) [] E0 (tCons (tVar 9) (tCons (tVar 11) (tCons (tCall (sp_law7_due K) [] E0 (tCons (tVar 3) (tCons (tVar 2) (tCons (tVar 10) (tCons (tVar 11) tNil))))) tNil)))))) (tRet (tC (.bl false))) tNext))))))))))
  (tRet (tC (.bl true)))))))
def t_law (K : PySem.W.Frag) (w : World) : TS :=
  (tSeq (tFor (iRng1 (tCons (tCB rMax2 (tCons (tC (.int 2)) (tCons (tCB rMin2 (tCons (tCB (rLenV K) (tCons (tVar 0) tNil)) (tCons (tC (.int 6)) tNil))) tNil))) tNil)) (gName 1) (tIfS (tNot (tB (tCall (sp_law7_right K w) [] E0 (tCons (tCall (sp_law7_purse K) [] E0 (tCons (tCall (sp_law7_cell K) [] E0 (tCons (tVar 0) (tCons (tVar 1) tNil))) tNil)) tNil)))) (tRet (tC (.bl false))) tNext))
  (tRet (tC (.bl true))))
section
variable {K : PySem.W.Frag} {w : World} {vs : List V} {H H' : Hp} {Q : VK} {E : XK} {a : Addr}
theorem m7_ixN {q : Addr} {D : MD} {C : VK} (h : M7At K H q D) (k : C (.int (D.n : Nat)) H) : rIxT K (.ref q) (.int 1) H C := by
  obtain ⟨ss, ee, yy, kt, h1, _⟩ := h
  exact s_ixT h1 (atI_of (by decide) rfl) k
theorem pure_law7_right (h : sp_law7_right K w vs H Q E) : t_law7_right K w (E1 Q) (start ["_law_purse_here", "_law_signs_here", "_law_pairs_here", "_law_model_here", "_law_rows", "_law_words_here", "_law_turn", "_law_one", "_law_at", "_law_claim_here", "_law_rest", "_law_paper"] vs) H := by
  obtain ⟨a, rfl, hp, k⟩ := h
  show t_law7_right K w (E1 Q) [some (.ref a), none, none, none, none, none, none, none, none, none, none, none] H
  unfold t_law7_right
  refine s_seq (s_asg (s_call (s_cons (s_var (v := .ref a) rfl (s_nil ⟨a, rfl, hp, fun s H1 sg e1 p1 => s_gName ?_⟩)))))
  show tSeq _ _ _ [some (.ref a), some (vS s), none, none, none, none, none, none, none, none, none, none] _
  refine s_seq (s_par (s_cons (s_call (s_cons (s_var (v := .ref a) rfl (s_cons (s_var (v := vS s) rfl (s_nil ⟨a, s, rfl, p1, sg.1, sg.2.1, fun ps pa H2 gr npa e2 p2 hpa => ?_⟩))))))))
  refine s_cons (s_call (s_cons (s_var (v := .ref a) rfl (s_cons (s_call (s_cons (s_var (v := .ref a) rfl (s_cons (s_var (v := vS s) rfl (s_nil ⟨a, s, rfl, p2, sg, fun t H3 gt srtt sub e3 p3 => ?_⟩))))))))))
  refine s_cons (s_c (s_nil ⟨a, t, 3, rfl, gt, srtt, by decide, by decide, p3, fun q D H4 gd ds dn e4 p4 md => s_nil (s_pair ?_)⟩))
  subst ds
  show tSeq _ _ _ [some (.ref a), some (vS s), some (.ref pa), some (.ref q), none, none, none, none, none, none, none, none] _
  have npaa : pa ≠ a := pool_noS p2 hpa
  have hpa4 := e4.get (by simpa using npaa) (e3.get (by simpa using npaa) hpa)
  have e14 := e1.trans (e2.trans (e3.trans e4))
  have gd3 := gd.n3
  have gd1 := gd.n1
  refine s_seq (s_par (s_cons (s_lst (s_cons (s_call (s_cons (s_var (v := .ref q) rfl (s_cons (s_call (s_cons (s_var (v := .ref a) rfl (s_cons (s_op (s_var (v := .ref q) rfl (s_c (m7_ixN (m7_all md) (s_nil ⟨a, (D.n : Nat), rfl, by omega, by omega, p4, fun st tp H5 hst stl ntp e5 p5 htp => ?_⟩)))))))))))))))))
  have md5 := m7_draw e5 md
  refine s_nil ⟨q, tp, rfl, D, st, m7_all md5, gd, hst, by omega, htp, fun r H6 e6 hr => ?_⟩
  have hpa6 := e6.get0 (e5.get (by simpa using npaa) hpa4)
  have p6 := p5.ex e6 (by simp)
  have md6 := m7_draw e6.wide md5
  refine s_cons (s_tup (s_cons (s_var (v := vS s) rfl (s_cons (s_cb (s_cons (s_var (v := .ref pa) rfl (s_nil (s_tupOf (SqL.of hpa6) fun tt H7 ntt e7 htt => s_nil ?_)))))))))
  refine s_alloc (by show 2 ≤ sizeLine; decide) fun kd H8 nkd e8 hkd => s_nil ?_
  refine s_alloc (by show 2 ≤ sizeLine; decide) fun rw H9 nrw e9 hrw => ?_
  have e69 := e7.trans (e8.trans e9)
  have hpa9 := e69.get0 hpa6
  have p9 := p6.ex e69 (by simp)
  have lps := gr.2.2.2.2
  refine s_cons (s_call (s_cons (s_var (v := vS s) rfl (s_cons (s_var (v := .ref pa) rfl (s_cons (s_c (s_nil ⟨s, pa, rfl, ps, sg.1, hpa9, lps, fun ws wa H10 hws lws e10 hwa => s_nil (s_pair ?_)⟩))))))))
  show tSeq _ _ _ [some (.ref a), some (vS s), some (.ref pa), some (.ref q), some (.ref rw), some (.ref wa), none, none, none, none, none, none] _
  have e6X := e69.trans e10
  have p10 := p6.ex e6X (by simp)
  have nrwa : rw ≠ a := fun z => (p6.ex (e7.trans e8) (by simp)).there (z ▸ nrw)
  have c : C70 := ⟨H, a, pa, q, rw, wa, r, kd, s, ps, ws, st, D⟩
  have F : Fx70 ⟨H, a, pa, q, rw, wa, r, kd, s, ps, ws, st, D⟩ := ⟨sg, gr, gd, hst, by show st.length = D.n; omega, sub, hws, lws, npaa, nrwa, pool_noS p10 hwa⟩
  have I : In70 K ⟨H, a, pa, q, rw, wa, r, kd, s, ps, ws, st, D⟩ H10 := ⟨e14.trans (e5.trans (e6.wide.trans e6X.wide)), p10, e6X.get0 hpa6, m7_draw e6X.wide md6, e10.get0 hrw, hr.ex0 e6X, ⟨tt, SqT.of (e10.get0 (e9.get0 hkd)), SqT.of (e10.get0 (e9.get0 (e8.get0 htt)))⟩, hwa⟩
  clear c
  refine s_seq (s_for (s_rng1 (s_cons (s_c (s_nil (s_rng1i (by omega) ?_))))))
  refine for_run walk_range (fun i σ G => ∃ x6 x7 x8 x9 x10 x11, σ = [some (.ref a), some (vS s), some (.ref pa), some (.ref q), some (.ref rw), some (.ref wa), x6, x7, x8, x9, x10, x11] ∧ In70 K ⟨H, a, pa, q, rw, wa, r, kd, s, ps, ws, st, D⟩ G) ⟨_, _, _, _, _, _, rfl, I⟩ (fun _ _ _ _ _ => trivial) ?_ ?_
  · rintro i y σ G G2 hi ⟨x6, x7, x8, x9, x10, x11, rfl, I⟩ ⟨rfl, rfl⟩
    refine s_gName ?_
    exact b70_0 (c := ⟨H, a, pa, q, rw, wa, r, kd, s, ps, ws, st, D⟩) (ti := .int (0 + (i : Int))) (x7 := x7) (x8 := x8) (x9 := x9) (x10 := x10) (x11 := x11) F I fun x7 x8 x9 x10 x11 G3 I3 => ⟨_, _, _, _, _, _, rfl, I3⟩
  · rintro σ G ⟨x6, x7, x8, x9, x10, x11, rfl, I⟩
    exact s_ret (s_c (k G I.ex))
theorem pure_law (h : sp_law K vs H Q E) : t_law K w (E1 Q) (start ["_law_cells", "_law_k"] vs) H := by
  obtain ⟨a, ns, rfl, hs, hl, k⟩ := h
  show t_law K w (E1 Q) [some (.ref a), none] H
  unfold t_law
  refine s_seq (s_for (s_rng1 (s_cons (s_cb (s_cons (s_c (s_cons (s_cb (s_cons (s_cb (s_cons (s_var (v := .ref a) rfl (s_nil (s_lenL hs (s_cons (s_c (s_nil (s_min2 (s_nil (s_max2 (s_nil ?_)))))))))))))))))))))
  rw [List.length_map]
  generalize hn : (if (if (6 : Int) < (ns.length : Int) then (6 : Int) else (ns.length : Int)) > 2 then (if (6 : Int) < (ns.length : Int) then (6 : Int) else (ns.length : Int)) else 2) = n
  have hn2 : 0 ≤ n ∧ n ≤ 63 := by subst hn; split <;> (try split) <;> omega
  clear hn
  refine s_rng1i (by omega) ?_
  refine for_run walk_range (fun i σ G => ∃ x1, σ = [some (.ref a), x1] ∧ Ex [] H G) ⟨_, rfl, Ex.rfl⟩ (fun _ _ _ _ _ => trivial) ?_ ?_
  · rintro i y σ G G2 hi ⟨x1, rfl, eG⟩ ⟨rfl, rfl⟩
    refine s_gName (s_ifS (s_not (s_tB (s_call (s_cons (s_call (s_cons (s_call (s_cons (s_var (v := .ref a) rfl (s_cons (s_var (v := .int (0 + (i : Int))) rfl (s_nil ?_)))))))))))))
    refine ⟨a, ns, 0 + (i : Int), rfl, eG.sqL (by simp) hs, hl, by omega, by omega, fun c H1 e1 => s_nil ⟨c, rfl, fun p H2 np e2 p2 => s_nil ⟨p, rfl, p2, fun H3 e3 => ?_⟩⟩⟩
    exact s_blQ (s_F rfl (s_next ⟨_, rfl, eG.trans (e1.trans (Ex.drop np e2 e3))⟩))
  · rintro σ G ⟨x1, rfl, eG⟩
    exact s_ret (s_c (k G))
end
end WB
namespace WB
open PySem PySem.Spec PyProof.Rows L2
structure Tx (w : World) (K : Fr') (mg : Str → Option Value) : Prop where
  c : SaysW fa fn ex K
  kd : TabsOk ts w K
  h : ∃ h : Heap, K.In h ∧ h.Ns mainGlobals mg
theorem Tx.g_is_integer {w : World} {K : Fr'} {mg : Str → Option Value} (T : Tx w K mg) : mg "is_integer" = some (.ref (He.ga K "is_integer")) := by
  obtain ⟨h, X, G⟩ := T.h
  exact He.glo_ok X G (T.c.fact 0)
theorem Tx.g_is_within {w : World} {K : Fr'} {mg : Str → Option Value} (T : Tx w K mg) : mg "is_within" = some (.ref (He.ga K "is_within")) := by
  obtain ⟨h, X, G⟩ := T.h
  exact He.glo_ok X G (T.c.fact 1)
theorem Tx.g_is_name {w : World} {K : Fr'} {mg : Str → Option Value} (T : Tx w K mg) : mg "is_name" = some (.ref (He.ga K "is_name")) := by
  obtain ⟨h, X, G⟩ := T.h
  exact He.glo_ok X G (T.c.fact 2)
theorem Tx.g_is_word {w : World} {K : Fr'} {mg : Str → Option Value} (T : Tx w K mg) : mg "is_word" = some (.ref (He.ga K "is_word")) := by
  obtain ⟨h, X, G⟩ := T.h
  exact He.glo_ok X G (T.c.fact 3)
theorem Tx.g_is_row {w : World} {K : Fr'} {mg : Str → Option Value} (T : Tx w K mg) : mg "is_row" = some (.ref (He.ga K "is_row")) := by
  obtain ⟨h, X, G⟩ := T.h
  exact He.glo_ok X G (T.c.fact 4)
theorem Tx.g_least_turning {w : World} {K : Fr'} {mg : Str → Option Value} (T : Tx w K mg) : mg "least_turning" = some (.ref (He.ga K "least_turning")) := by
  obtain ⟨h, X, G⟩ := T.h
  exact He.glo_ok X G (T.c.fact 5)
theorem Tx.g_check_signs {w : World} {K : Fr'} {mg : Str → Option Value} (T : Tx w K mg) : mg "check_signs" = some (.ref (He.ga K "check_signs")) := by
  obtain ⟨h, X, G⟩ := T.h
  exact He.glo_ok X G (T.c.fact 6)
theorem Tx.g_check_pairs {w : World} {K : Fr'} {mg : Str → Option Value} (T : Tx w K mg) : mg "check_pairs" = some (.ref (He.ga K "check_pairs")) := by
  obtain ⟨h, X, G⟩ := T.h
  exact He.glo_ok X G (T.c.fact 7)
theorem Tx.g_place_of {w : World} {K : Fr'} {mg : Str → Option Value} (T : Tx w K mg) : mg "place_of" = some (.ref (He.ga K "place_of")) := by
  obtain ⟨h, X, G⟩ := T.h
  exact He.glo_ok X G (T.c.fact 8)
theorem Tx.g_is_step {w : World} {K : Fr'} {mg : Str → Option Value} (T : Tx w K mg) : mg "is_step" = some (.ref (He.ga K "is_step")) := by
  obtain ⟨h, X, G⟩ := T.h
  exact He.glo_ok X G (T.c.fact 9)
theorem Tx.g_is_turn {w : World} {K : Fr'} {mg : Str → Option Value} (T : Tx w K mg) : mg "is_turn" = some (.ref (He.ga K "is_turn")) := by
  obtain ⟨h, X, G⟩ := T.h
  exact He.glo_ok X G (T.c.fact 10)
theorem Tx.g_check_states {w : World} {K : Fr'} {mg : Str → Option Value} (T : Tx w K mg) : mg "check_states" = some (.ref (He.ga K "check_states")) := by
  obtain ⟨h, X, G⟩ := T.h
  exact He.glo_ok X G (T.c.fact 11)
theorem Tx.g_check_rows {w : World} {K : Fr'} {mg : Str → Option Value} (T : Tx w K mg) : mg "check_rows" = some (.ref (He.ga K "check_rows")) := by
  obtain ⟨h, X, G⟩ := T.h
  exact He.glo_ok X G (T.c.fact 12)
theorem Tx.g_check_turns {w : World} {K : Fr'} {mg : Str → Option Value} (T : Tx w K mg) : mg "check_turns" = some (.ref (He.ga K "check_turns")) := by
  obtain ⟨h, X, G⟩ := T.h
  exact He.glo_ok X G (T.c.fact 13)
theorem Tx.g_check_yes {w : World} {K : Fr'} {mg : Str → Option Value} (T : Tx w K mg) : mg "check_yes" = some (.ref (He.ga K "check_yes")) := by
  obtain ⟨h, X, G⟩ := T.h
  exact He.glo_ok X G (T.c.fact 14)
theorem Tx.g_is_lap {w : World} {K : Fr'} {mg : Str → Option Value} (T : Tx w K mg) : mg "is_lap" = some (.ref (He.ga K "is_lap")) := by
  obtain ⟨h, X, G⟩ := T.h
  exact He.glo_ok X G (T.c.fact 15)
theorem Tx.g_loop_of {w : World} {K : Fr'} {mg : Str → Option Value} (T : Tx w K mg) : mg "loop_of" = some (.ref (He.ga K "loop_of")) := by
  obtain ⟨h, X, G⟩ := T.h
  exact He.glo_ok X G (T.c.fact 17)
theorem Tx.g_kind_of {w : World} {K : Fr'} {mg : Str → Option Value} (T : Tx w K mg) : mg "kind_of" = some (.ref (He.ga K "kind_of")) := by
  obtain ⟨h, X, G⟩ := T.h
  exact He.glo_ok X G (T.c.fact 18)
theorem Tx.g_accepts {w : World} {K : Fr'} {mg : Str → Option Value} (T : Tx w K mg) : mg "accepts" = some (.ref (He.ga K "accepts")) := by
  obtain ⟨h, X, G⟩ := T.h
  exact He.glo_ok X G (T.c.fact 19)
theorem Tx.g_law7_cell {w : World} {K : Fr'} {mg : Str → Option Value} (T : Tx w K mg) : mg "_law_cell" = some (.ref (He.ga K "_law_cell")) := by
  obtain ⟨h, X, G⟩ := T.h
  exact He.glo_ok X G (T.c.fact 20)
theorem Tx.g_law7_purse {w : World} {K : Fr'} {mg : Str → Option Value} (T : Tx w K mg) : mg "_law_purse" = some (.ref (He.ga K "_law_purse")) := by
  obtain ⟨h, X, G⟩ := T.h
  exact He.glo_ok X G (T.c.fact 21)
theorem Tx.g_law7_pick {w : World} {K : Fr'} {mg : Str → Option Value} (T : Tx w K mg) : mg "_law_pick" = some (.ref (He.ga K "_law_pick")) := by
  obtain ⟨h, X, G⟩ := T.h
  exact He.glo_ok X G (T.c.fact 22)
theorem Tx.g_law_wholeK {w : World} {K : Fr'} {mg : Str → Option Value} (T : Tx w K mg) : mg "_law_whole" = some (.ref (He.ga K "_law_whole")) := by
  obtain ⟨h, X, G⟩ := T.h
  exact He.glo_ok X G (T.c.fact 23)
theorem Tx.g_law7_amount {w : World} {K : Fr'} {mg : Str → Option Value} (T : Tx w K mg) : mg "_law_amount" = some (.ref (He.ga K "_law_amount")) := by
  obtain ⟨h, X, G⟩ := T.h
  exact He.glo_ok X G (T.c.fact 24)
theorem Tx.g_law7_signs {w : World} {K : Fr'} {mg : Str → Option Value} (T : Tx w K mg) : mg "_law_signs" = some (.ref (He.ga K "_law_signs")) := by
  obtain ⟨h, X, G⟩ := T.h
  exact He.glo_ok X G (T.c.fact 25)
theorem Tx.g_law7_wider {w : World} {K : Fr'} {mg : Str → Option Value} (T : Tx w K mg) : mg "_law_wider" = some (.ref (He.ga K "_law_wider")) := by
  obtain ⟨h, X, G⟩ := T.h
  exact He.glo_ok X G (T.c.fact 26)
theorem Tx.g_law7_model {w : World} {K : Fr'} {mg : Str → Option Value} (T : Tx w K mg) : mg "_law_model" = some (.ref (He.ga K "_law_model")) := by
  obtain ⟨h, X, G⟩ := T.h
  exact He.glo_ok X G (T.c.fact 27)
theorem Tx.g_law7_tags {w : World} {K : Fr'} {mg : Str → Option Value} (T : Tx w K mg) : mg "_law_tags" = some (.ref (He.ga K "_law_tags")) := by
  obtain ⟨h, X, G⟩ := T.h
  exact He.glo_ok X G (T.c.fact 28)
theorem Tx.g_law7_row {w : World} {K : Fr'} {mg : Str → Option Value} (T : Tx w K mg) : mg "_law_row" = some (.ref (He.ga K "_law_row")) := by
  obtain ⟨h, X, G⟩ := T.h
  exact He.glo_ok X G (T.c.fact 29)
theorem Tx.g_law7_pairs {w : World} {K : Fr'} {mg : Str → Option Value} (T : Tx w K mg) : mg "_law_pairs" = some (.ref (He.ga K "_law_pairs")) := by
  obtain ⟨h, X, G⟩ := T.h
  exact He.glo_ok X G (T.c.fact 30)
theorem Tx.g_law7_words {w : World} {K : Fr'} {mg : Str → Option Value} (T : Tx w K mg) : mg "_law_words" = some (.ref (He.ga K "_law_words")) := by
  obtain ⟨h, X, G⟩ := T.h
  exact He.glo_ok X G (T.c.fact 31)
theorem Tx.g_law7_answers {w : World} {K : Fr'} {mg : Str → Option Value} (T : Tx w K mg) : mg "_law_answers" = some (.ref (He.ga K "_law_answers")) := by
  obtain ⟨h, X, G⟩ := T.h
  exact He.glo_ok X G (T.c.fact 32)
theorem Tx.g_law7_near {w : World} {K : Fr'} {mg : Str → Option Value} (T : Tx w K mg) : mg "_law_near" = some (.ref (He.ga K "_law_near")) := by
  obtain ⟨h, X, G⟩ := T.h
  exact He.glo_ok X G (T.c.fact 33)
theorem Tx.g_law7_answer {w : World} {K : Fr'} {mg : Str → Option Value} (T : Tx w K mg) : mg "_law_answer" = some (.ref (He.ga K "_law_answer")) := by
  obtain ⟨h, X, G⟩ := T.h
  exact He.glo_ok X G (T.c.fact 34)
theorem Tx.g_law7_odd {w : World} {K : Fr'} {mg : Str → Option Value} (T : Tx w K mg) : mg "_law_odd" = some (.ref (He.ga K "_law_odd")) := by
  obtain ⟨h, X, G⟩ := T.h
  exact He.glo_ok X G (T.c.fact 35)
theorem Tx.g_law7_bent {w : World} {K : Fr'} {mg : Str → Option Value} (T : Tx w K mg) : mg "_law_bent" = some (.ref (He.ga K "_law_bent")) := by
  obtain ⟨h, X, G⟩ := T.h
  exact He.glo_ok X G (T.c.fact 36)
theorem Tx.g_law7_is_ring {w : World} {K : Fr'} {mg : Str → Option Value} (T : Tx w K mg) : mg "_law_is_ring" = some (.ref (He.ga K "_law_is_ring")) := by
  obtain ⟨h, X, G⟩ := T.h
  exact He.glo_ok X G (T.c.fact 37)
theorem Tx.g_law7_turns {w : World} {K : Fr'} {mg : Str → Option Value} (T : Tx w K mg) : mg "_law_turns" = some (.ref (He.ga K "_law_turns")) := by
  obtain ⟨h, X, G⟩ := T.h
  exact He.glo_ok X G (T.c.fact 38)
theorem Tx.g_law7_is_word {w : World} {K : Fr'} {mg : Str → Option Value} (T : Tx w K mg) : mg "_law_is_word" = some (.ref (He.ga K "_law_is_word")) := by
  obtain ⟨h, X, G⟩ := T.h
  exact He.glo_ok X G (T.c.fact 39)
theorem Tx.g_law7_is_lap {w : World} {K : Fr'} {mg : Str → Option Value} (T : Tx w K mg) : mg "_law_is_lap" = some (.ref (He.ga K "_law_is_lap")) := by
  obtain ⟨h, X, G⟩ := T.h
  exact He.glo_ok X G (T.c.fact 40)
theorem Tx.g_law7_lap {w : World} {K : Fr'} {mg : Str → Option Value} (T : Tx w K mg) : mg "_law_lap" = some (.ref (He.ga K "_law_lap")) := by
  obtain ⟨h, X, G⟩ := T.h
  exact He.glo_ok X G (T.c.fact 41)
theorem Tx.g_law7_accepted {w : World} {K : Fr'} {mg : Str → Option Value} (T : Tx w K mg) : mg "_law_accepted" = some (.ref (He.ga K "_law_accepted")) := by
  obtain ⟨h, X, G⟩ := T.h
  exact He.glo_ok X G (T.c.fact 42)
theorem Tx.g_law7_due {w : World} {K : Fr'} {mg : Str → Option Value} (T : Tx w K mg) : mg "_law_due" = some (.ref (He.ga K "_law_due")) := by
  obtain ⟨h, X, G⟩ := T.h
  exact He.glo_ok X G (T.c.fact 43)
theorem Tx.g_law7_right {w : World} {K : Fr'} {mg : Str → Option Value} (T : Tx w K mg) : mg "_law_right" = some (.ref (He.ga K "_law_right")) := by
  obtain ⟨h, X, G⟩ := T.h
  exact He.glo_ok X G (T.c.fact 44)
theorem Tx.g_law {w : World} {K : Fr'} {mg : Str → Option Value} (T : Tx w K mg) : mg "law" = some (.ref (He.ga K "law")) := by
  obtain ⟨h, X, G⟩ := T.h
  exact He.glo_ok X G (T.c.fact 45)
theorem Tx.g_Kind {w : World} {K : Fr'} {mg : Str → Option Value} (T : Tx w K mg) : mg "Kind" = some (.ref (He.ga K "Kind")) := by
  obtain ⟨h, X, G⟩ := T.h
  exact He.glo_ok X G (T.c.fact 46)
theorem Tx.g_LETTERS {w : World} {K : Fr'} {mg : Str → Option Value} (T : Tx w K mg) : ∃ t, mg "LETTERS" = some (.str "abcdefghijklmnopqrstuvwxyz" t) := by
  obtain ⟨h, X, G⟩ := T.h
  exact He.str_ok X G (T.c.fact 47)
theorem Tx.g_LONGEST_NAME {w : World} {K : Fr'} {mg : Str → Option Value} (T : Tx w K mg) : ∃ t, mg "LONGEST_NAME" = some (.int 8 t) := by
  obtain ⟨h, X, G⟩ := T.h
  exact He.int_ok X G (T.c.fact 48)
theorem Tx.g_Loop {w : World} {K : Fr'} {mg : Str → Option Value} (T : Tx w K mg) : mg "Loop" = some (.ref (He.ga K "Loop")) := by
  obtain ⟨h, X, G⟩ := T.h
  exact He.glo_ok X G (T.c.fact 49)
theorem Tx.g_MARKS {w : World} {K : Fr'} {mg : Str → Option Value} (T : Tx w K mg) : ∃ t, mg "MARKS" = some (.str "abcdefghijklmnopqrstuvwxyz0123456789" t) := by
  obtain ⟨h, X, G⟩ := T.h
  exact He.str_ok X G (T.c.fact 50)
theorem Tx.g_MOST_ROUNDS {w : World} {K : Fr'} {mg : Str → Option Value} (T : Tx w K mg) : ∃ t, mg "MOST_ROUNDS" = some (.int 99 t) := by
  obtain ⟨h, X, G⟩ := T.h
  exact He.int_ok X G (T.c.fact 51)
theorem Tx.g_MOST_SIGNS {w : World} {K : Fr'} {mg : Str → Option Value} (T : Tx w K mg) : ∃ t, mg "MOST_SIGNS" = some (.int 4 t) := by
  obtain ⟨h, X, G⟩ := T.h
  exact He.int_ok X G (T.c.fact 52)
theorem Tx.g_MOST_STATES {w : World} {K : Fr'} {mg : Str → Option Value} (T : Tx w K mg) : ∃ t, mg "MOST_STATES" = some (.int 6 t) := by
  obtain ⟨h, X, G⟩ := T.h
  exact He.int_ok X G (T.c.fact 53)
theorem Tx.g_MOST_WORD {w : World} {K : Fr'} {mg : Str → Option Value} (T : Tx w K mg) : ∃ t, mg "MOST_WORD" = some (.int 600 t) := by
  obtain ⟨h, X, G⟩ := T.h
  exact He.int_ok X G (T.c.fact 54)
theorem Tx.g_Ring {w : World} {K : Fr'} {mg : Str → Option Value} (T : Tx w K mg) : mg "Ring" = some (.ref (He.ga K "Ring")) := by
  obtain ⟨h, X, G⟩ := T.h
  exact He.glo_ok X G (T.c.fact 55)
theorem Tx.n_abs {w : World} {K : Fr'} {mg : Str → Option Value} (T : Tx w K mg) : mg "abs" = none := by
  obtain ⟨h, X, G⟩ := T.h
  exact He.free_ok X G (T.c.fact 56)
theorem Tx.n_all {w : World} {K : Fr'} {mg : Str → Option Value} (T : Tx w K mg) : mg "all" = none := by
  obtain ⟨h, X, G⟩ := T.h
  exact He.free_ok X G (T.c.fact 57)
theorem Tx.n_bool {w : World} {K : Fr'} {mg : Str → Option Value} (T : Tx w K mg) : mg "bool" = none := by
  obtain ⟨h, X, G⟩ := T.h
  exact He.free_ok X G (T.c.fact 58)
theorem Tx.n_divmod {w : World} {K : Fr'} {mg : Str → Option Value} (T : Tx w K mg) : mg "divmod" = none := by
  obtain ⟨h, X, G⟩ := T.h
  exact He.free_ok X G (T.c.fact 59)
theorem Tx.n_enumerate {w : World} {K : Fr'} {mg : Str → Option Value} (T : Tx w K mg) : mg "enumerate" = none := by
  obtain ⟨h, X, G⟩ := T.h
  exact He.free_ok X G (T.c.fact 60)
theorem Tx.n_int {w : World} {K : Fr'} {mg : Str → Option Value} (T : Tx w K mg) : mg "int" = none := by
  obtain ⟨h, X, G⟩ := T.h
  exact He.free_ok X G (T.c.fact 61)
theorem Tx.n_isinstance {w : World} {K : Fr'} {mg : Str → Option Value} (T : Tx w K mg) : mg "isinstance" = none := by
  obtain ⟨h, X, G⟩ := T.h
  exact He.free_ok X G (T.c.fact 62)
theorem Tx.n_len {w : World} {K : Fr'} {mg : Str → Option Value} (T : Tx w K mg) : mg "len" = none := by
  obtain ⟨h, X, G⟩ := T.h
  exact He.free_ok X G (T.c.fact 63)
theorem Tx.n_list {w : World} {K : Fr'} {mg : Str → Option Value} (T : Tx w K mg) : mg "list" = none := by
  obtain ⟨h, X, G⟩ := T.h
  exact He.free_ok X G (T.c.fact 64)
theorem Tx.n_max {w : World} {K : Fr'} {mg : Str → Option Value} (T : Tx w K mg) : mg "max" = none := by
  obtain ⟨h, X, G⟩ := T.h
  exact He.free_ok X G (T.c.fact 65)
theorem Tx.n_min {w : World} {K : Fr'} {mg : Str → Option Value} (T : Tx w K mg) : mg "min" = none := by
  obtain ⟨h, X, G⟩ := T.h
  exact He.free_ok X G (T.c.fact 66)
theorem Tx.n_range {w : World} {K : Fr'} {mg : Str → Option Value} (T : Tx w K mg) : mg "range" = none := by
  obtain ⟨h, X, G⟩ := T.h
  exact He.free_ok X G (T.c.fact 67)
theorem Tx.n_set {w : World} {K : Fr'} {mg : Str → Option Value} (T : Tx w K mg) : mg "set" = none := by
  obtain ⟨h, X, G⟩ := T.h
  exact He.free_ok X G (T.c.fact 68)
theorem Tx.n_sorted {w : World} {K : Fr'} {mg : Str → Option Value} (T : Tx w K mg) : mg "sorted" = none := by
  obtain ⟨h, X, G⟩ := T.h
  exact He.free_ok X G (T.c.fact 69)
theorem Tx.n_str {w : World} {K : Fr'} {mg : Str → Option Value} (T : Tx w K mg) : mg "str" = none := by
  obtain ⟨h, X, G⟩ := T.h
  exact He.free_ok X G (T.c.fact 70)
theorem Tx.n_tuple {w : World} {K : Fr'} {mg : Str → Option Value} (T : Tx w K mg) : mg "tuple" = none := by
  obtain ⟨h, X, G⟩ := T.h
  exact He.free_ok X G (T.c.fact 71)
theorem Tx.c_Ring {w : World} {K : Fr'} {mg : Str → Option Value} (T : Tx w K mg) : Cls K (He.ga K "Ring") := He.cls_ok (T.c.fact 72)
theorem Tx.na_Ring_least {w : World} {K : Fr'} {mg : Str → Option Value} (T : Tx w K mg) : NoAttr K (He.ga K "Ring") "least" := He.noat_ok (T.c.fact 73)
theorem Tx.ins_Ring {w : World} {K : Fr'} {mg : Str → Option Value} (T : Tx w K mg) : insB "Ring" K = true := T.c.more 0
theorem Tx.no_Ring {w : World} {K : Fr'} {mg : Str → Option Value} (T : Tx w K mg) : noB "Ring" K = true := T.c.more 1
theorem Tx.ne_Ring {w : World} {K : Fr'} {mg : Str → Option Value} (T : Tx w K mg) : NeF K (He.ga K "Ring") := neB_ok (T.c.more 2)
theorem Tx.mk_Ring {w : World} {K : Fr'} {mg : Str → Option Value} (T : Tx w K mg) : Mk K (He.ga K "Ring") (He.ma K (He.ga K "Ring") "__init__") := He.mkr_ok (T.c.fact 74)
theorem Tx.c_Kind {w : World} {K : Fr'} {mg : Str → Option Value} (T : Tx w K mg) : Cls K (He.ga K "Kind") := He.cls_ok (T.c.fact 75)
theorem Tx.na_Kind_letters {w : World} {K : Fr'} {mg : Str → Option Value} (T : Tx w K mg) : NoAttr K (He.ga K "Kind") "letters" := He.noat_ok (T.c.fact 76)
theorem Tx.na_Kind_allowed {w : World} {K : Fr'} {mg : Str → Option Value} (T : Tx w K mg) : NoAttr K (He.ga K "Kind") "allowed" := He.noat_ok (T.c.fact 77)
theorem Tx.ins_Kind {w : World} {K : Fr'} {mg : Str → Option Value} (T : Tx w K mg) : insB "Kind" K = true := T.c.more 3
theorem Tx.no_Kind {w : World} {K : Fr'} {mg : Str → Option Value} (T : Tx w K mg) : noB "Kind" K = true := T.c.more 4
theorem Tx.cr_Kind {w : World} {K : Fr'} {mg : Str → Option Value} (T : Tx w K mg) : ClX.CRead K (He.ga K "Kind") (.type "type") := crB_ok (T.c.more 5)
theorem Tx.mk_Kind {w : World} {K : Fr'} {mg : Str → Option Value} (T : Tx w K mg) : Mk K (He.ga K "Kind") (He.ma K (He.ga K "Kind") "__init__") := He.mkr_ok (T.c.fact 78)
theorem Tx.c_Loop {w : World} {K : Fr'} {mg : Str → Option Value} (T : Tx w K mg) : Cls K (He.ga K "Loop") := He.cls_ok (T.c.fact 79)
theorem Tx.na_Loop_letters {w : World} {K : Fr'} {mg : Str → Option Value} (T : Tx w K mg) : NoAttr K (He.ga K "Loop") "letters" := He.noat_ok (T.c.fact 80)
theorem Tx.na_Loop_order {w : World} {K : Fr'} {mg : Str → Option Value} (T : Tx w K mg) : NoAttr K (He.ga K "Loop") "order" := He.noat_ok (T.c.fact 81)
theorem Tx.na_Loop_table {w : World} {K : Fr'} {mg : Str → Option Value} (T : Tx w K mg) : NoAttr K (He.ga K "Loop") "table" := He.noat_ok (T.c.fact 82)
theorem Tx.na_Loop_ending {w : World} {K : Fr'} {mg : Str → Option Value} (T : Tx w K mg) : NoAttr K (He.ga K "Loop") "ending" := He.noat_ok (T.c.fact 83)
theorem Tx.na_Loop_marked {w : World} {K : Fr'} {mg : Str → Option Value} (T : Tx w K mg) : NoAttr K (He.ga K "Loop") "marked" := He.noat_ok (T.c.fact 84)
theorem Tx.cr_Loop {w : World} {K : Fr'} {mg : Str → Option Value} (T : Tx w K mg) : ClX.CRead K (He.ga K "Loop") (.type "type") := crB_ok (T.c.more 8)
theorem Tx.mk_Loop {w : World} {K : Fr'} {mg : Str → Option Value} (T : Tx w K mg) : Mk K (He.ga K "Loop") (He.ma K (He.ga K "Loop") "__init__") := He.mkr_ok (T.c.fact 85)
theorem Tx.kn_Kind_Ring {w : World} {K : Fr'} {mg : Str → Option Value} (T : Tx w K mg) : PySem.W.kitOne K (.ref (He.ga K "Kind")) (.ref (He.ga K "Ring")) = some false := kitNB_ok (T.c.more 10)
theorem Tx.kn_Ring_Kind {w : World} {K : Fr'} {mg : Str → Option Value} (T : Tx w K mg) : PySem.W.kitOne K (.ref (He.ga K "Ring")) (.ref (He.ga K "Kind")) = some false := kitNB_ok (T.c.more 11)
theorem Tx.p_Ring_text {w : World} {K : Fr'} {mg : Str → Option Value} (T : Tx w K mg) : PropOf K (He.ga K "Ring") "text" (He.ma K (He.ga K "Ring") "text") (He5.wf K (He.ga K "Ring") "property" "text") := propB_ok (T.c.more 12)
theorem Tx.s_Ring_eq {w : World} {K : Fr'} {mg : Str → Option Value} (T : Tx w K mg) : Spec1 K (He.ga K "Ring") "__eq__" (He.ma K (He.ga K "Ring") "__eq__") := specB_ok (T.c.more 13)
theorem Tx.p_Kind_signs {w : World} {K : Fr'} {mg : Str → Option Value} (T : Tx w K mg) : PropOf K (He.ga K "Kind") "signs" (He.ma K (He.ga K "Kind") "signs") (He5.wf K (He.ga K "Kind") "property" "signs") := propB_ok (T.c.more 14)
theorem Tx.p_Kind_row {w : World} {K : Fr'} {mg : Str → Option Value} (T : Tx w K mg) : PropOf K (He.ga K "Kind") "row" (He.ma K (He.ga K "Kind") "row") (He5.wf K (He.ga K "Kind") "property" "row") := propB_ok (T.c.more 15)
theorem Tx.cm_Kind_made {w : World} {K : Fr'} {mg : Str → Option Value} (T : Tx w K mg) : ClX.CMet K (He.ga K "Kind") (.type "type") "made" (He.ma K (He.ga K "Kind") "made") (He5.wf K (He.ga K "Kind") "classmethod" "made") := cmB_ok (T.c.more 16)
theorem Tx.m_Kind_closes {w : World} {K : Fr'} {mg : Str → Option Value} (T : Tx w K mg) : Meth K (He.ga K "Kind") "closes" (He.ma K (He.ga K "Kind") "closes") := He.meth_ok (T.c.fact 86)
theorem Tx.s_Kind_contains {w : World} {K : Fr'} {mg : Str → Option Value} (T : Tx w K mg) : Spec1 K (He.ga K "Kind") "__contains__" (He.ma K (He.ga K "Kind") "__contains__") := specB_ok (T.c.more 17)
theorem Tx.p_Loop_signs {w : World} {K : Fr'} {mg : Str → Option Value} (T : Tx w K mg) : PropOf K (He.ga K "Loop") "signs" (He.ma K (He.ga K "Loop") "signs") (He5.wf K (He.ga K "Loop") "property" "signs") := propB_ok (T.c.more 18)
theorem Tx.p_Loop_rows {w : World} {K : Fr'} {mg : Str → Option Value} (T : Tx w K mg) : PropOf K (He.ga K "Loop") "rows" (He.ma K (He.ga K "Loop") "rows") (He5.wf K (He.ga K "Loop") "property" "rows") := propB_ok (T.c.more 19)
theorem Tx.p_Loop_turns {w : World} {K : Fr'} {mg : Str → Option Value} (T : Tx w K mg) : PropOf K (He.ga K "Loop") "turns" (He.ma K (He.ga K "Loop") "turns") (He5.wf K (He.ga K "Loop") "property" "turns") := propB_ok (T.c.more 20)
theorem Tx.p_Loop_row {w : World} {K : Fr'} {mg : Str → Option Value} (T : Tx w K mg) : PropOf K (He.ga K "Loop") "row" (He.ma K (He.ga K "Loop") "row") (He5.wf K (He.ga K "Loop") "property" "row") := propB_ok (T.c.more 21)
theorem Tx.cm_Loop_made {w : World} {K : Fr'} {mg : Str → Option Value} (T : Tx w K mg) : ClX.CMet K (He.ga K "Loop") (.type "type") "made" (He.ma K (He.ga K "Loop") "made") (He5.wf K (He.ga K "Loop") "classmethod" "made") := cmB_ok (T.c.more 22)
theorem Tx.m_Loop_round_from {w : World} {K : Fr'} {mg : Str → Option Value} (T : Tx w K mg) : Meth K (He.ga K "Loop") "round_from" (He.ma K (He.ga K "Loop") "round_from") := He.meth_ok (T.c.fact 87)
theorem Tx.m_Loop_history {w : World} {K : Fr'} {mg : Str → Option Value} (T : Tx w K mg) : Meth K (He.ga K "Loop") "history" (He.ma K (He.ga K "Loop") "history") := He.meth_ok (T.c.fact 88)
theorem Tx.m_Loop_answer {w : World} {K : Fr'} {mg : Str → Option Value} (T : Tx w K mg) : Meth K (He.ga K "Loop") "answer" (He.ma K (He.ga K "Loop") "answer") := He.meth_ok (T.c.fact 89)
theorem Tx.g_LENGTHS {w : World} {K : Fr'} {mg : Str → Option Value} (T : Tx w K mg) : mg "LENGTHS" = some (.ref (He.ga K "LENGTHS")) := by
  obtain ⟨h, X, G⟩ := T.h
  exact He.glo_ok X G (T.c.fact 90)
theorem Tx.g_JUDGES {w : World} {K : Fr'} {mg : Str → Option Value} (T : Tx w K mg) : mg "JUDGES" = some (.ref (He.ga K "JUDGES")) := by
  obtain ⟨h, X, G⟩ := T.h
  exact He.glo_ok X G (T.c.fact 91)
theorem Tx.kdL {w : World} {K : Fr'} {mg : Str → Option Value} (T : Tx w K mg) : KdL K w := ⟨kdE_of (TabsOk.tab T.kd 0) (kvs := [("differ", .int 6)]) (T.c.more 23) (q := ("differ", .int 6)) (by simp), kdE_of (TabsOk.tab T.kd 1) (kvs := [("differ", .glo "shows_differ")]) (T.c.more 24) (q := ("differ", .glo "shows_differ")) (by simp)⟩
theorem Tx.ringK {w : World} {K : Fr'} {mg : Str → Option Value} (T : Tx w K mg) : RingK K := ⟨T.c_Ring, T.na_Ring_least, (insB_ok T.c_Ring T.ins_Ring).1, (insB_ok T.c_Ring T.ins_Ring).2, noB_ok T.no_Ring⟩
theorem Tx.kindK {w : World} {K : Fr'} {mg : Str → Option Value} (T : Tx w K mg) : KindK K := ⟨T.c_Kind, T.na_Kind_letters, T.na_Kind_allowed, (insB_ok T.c_Kind T.ins_Kind).1, (insB_ok T.c_Kind T.ins_Kind).2, noB_ok T.no_Kind, T.kn_Kind_Ring, T.kn_Ring_Kind⟩
theorem Tx.loopK {w : World} {K : Fr'} {mg : Str → Option Value} (T : Tx w K mg) : LoopK K := ⟨T.c_Loop, T.na_Loop_letters, T.na_Loop_order, T.na_Loop_table, T.na_Loop_ending, T.na_Loop_marked⟩
theorem Tx.f_is_integer {w : World} {K : Fr'} {mg : Str → Option Value} (T : Tx w K mg) : FunD K "is_integer" "is_integer" (defArgs st_is_integer) (defBody st_is_integer) (defScope st_is_integer) (d_is_integer.dvs K) (d_is_integer.kws K) (He.ga K "is_integer") (fdOf K (He.ga K "is_integer")) := T.c.def_ 0 (d := d_is_integer)
theorem Tx.k_is_integer {w : World} {K : Fr'} {mg : Str → Option Value} (T : Tx w K mg) : PySem.W.keepIn K (.ref (He.ga K "is_integer")) = true := T.f_is_integer.kp
theorem Tx.b_is_integer {w : World} {K : Fr'} {mg : Str → Option Value} (T : Tx w K mg) : Binds K (fdOf K (He.ga K "is_integer")) ["value"] [] := FunD.bindsN (kws := d_is_integer.kws K) (T.f_is_integer) fun _ _ _ _ _ _ us hl => match us, hl with | [_], _ => rfl
theorem Tx.f_is_within {w : World} {K : Fr'} {mg : Str → Option Value} (T : Tx w K mg) : FunD K "is_within" "is_within" (defArgs st_is_within) (defBody st_is_within) (defScope st_is_within) (d_is_within.dvs K) (d_is_within.kws K) (He.ga K "is_within") (fdOf K (He.ga K "is_within")) := T.c.def_ 1 (d := d_is_within)
theorem Tx.k_is_within {w : World} {K : Fr'} {mg : Str → Option Value} (T : Tx w K mg) : PySem.W.keepIn K (.ref (He.ga K "is_within")) = true := T.f_is_within.kp
theorem Tx.b_is_within {w : World} {K : Fr'} {mg : Str → Option Value} (T : Tx w K mg) : Binds K (fdOf K (He.ga K "is_within")) ["value", "least", "most"] [] := FunD.bindsN (kws := d_is_within.kws K) (T.f_is_within) fun _ _ _ _ _ _ us hl => match us, hl with | [_, _, _], _ => rfl
theorem Tx.f_is_name {w : World} {K : Fr'} {mg : Str → Option Value} (T : Tx w K mg) : FunD K "is_name" "is_name" (defArgs st_is_name) (defBody st_is_name) (defScope st_is_name) (d_is_name.dvs K) (d_is_name.kws K) (He.ga K "is_name") (fdOf K (He.ga K "is_name")) := T.c.def_ 2 (d := d_is_name)
theorem Tx.k_is_name {w : World} {K : Fr'} {mg : Str → Option Value} (T : Tx w K mg) : PySem.W.keepIn K (.ref (He.ga K "is_name")) = true := T.f_is_name.kp
theorem Tx.b_is_name {w : World} {K : Fr'} {mg : Str → Option Value} (T : Tx w K mg) : Binds K (fdOf K (He.ga K "is_name")) ["value"] [] := FunD.bindsN (kws := d_is_name.kws K) (T.f_is_name) fun _ _ _ _ _ _ us hl => match us, hl with | [_], _ => rfl
theorem Tx.f_is_word {w : World} {K : Fr'} {mg : Str → Option Value} (T : Tx w K mg) : FunD K "is_word" "is_word" (defArgs st_is_word) (defBody st_is_word) (defScope st_is_word) (d_is_word.dvs K) (d_is_word.kws K) (He.ga K "is_word") (fdOf K (He.ga K "is_word")) := T.c.def_ 3 (d := d_is_word)
theorem Tx.k_is_word {w : World} {K : Fr'} {mg : Str → Option Value} (T : Tx w K mg) : PySem.W.keepIn K (.ref (He.ga K "is_word")) = true := T.f_is_word.kp
theorem Tx.bf_is_word {w : World} {K : Fr'} {mg : Str → Option Value} (T : Tx w K mg) : Binds K (fdOf K (He.ga K "is_word")) ["value", "signs"] [] := by
  have h := FunD.binds1 (ps := ["value", "signs"]) (T.f_is_word) 2 1 (by simp [d_is_word, He5.DefA.dvs]) (by rfl) (fun _ _ _ _ _ _ _ us its h1 h2 => match us, its, h1, h2 with | [_, _], [_], _, _ => ⟨_, rfl, rfl⟩)
  obtain ⟨ds, hv, hb⟩ := h
  have e : (d_is_word.dvs K).drop 1 = [] := rfl
  rw [e] at hv
  cases hv
  exact hb
theorem Tx.bd1_is_word {w : World} {K : Fr'} {mg : Str → Option Value} (T : Tx w K mg) : ∃ ds, Vals [(vS LET)] ds ∧ Binds K (fdOf K (He.ga K "is_word")) ["value", "signs"] ds := by
  have h := FunD.binds1 (ps := ["value", "signs"]) (T.f_is_word) 1 0 (by simp [d_is_word, He5.DefA.dvs]) (by rfl) (fun _ _ _ _ _ _ _ us its h1 h2 => match us, its, h1, h2 with | [_], [_], _, _ => ⟨_, rfl, rfl⟩)
  obtain ⟨ds, hv, hb⟩ := h
  refine ⟨ds, ?_, hb⟩
  have e : (d_is_word.dvs K).drop 0 = [(vS LET)] := by
    simp only [d_is_word, He5.DefA.dvs, List.map, List.drop, He.Dv.v, lit_abc]
  rw [← e]
  exact hv
theorem Tx.f_is_row {w : World} {K : Fr'} {mg : Str → Option Value} (T : Tx w K mg) : FunD K "is_row" "is_row" (defArgs st_is_row) (defBody st_is_row) (defScope st_is_row) (d_is_row.dvs K) (d_is_row.kws K) (He.ga K "is_row") (fdOf K (He.ga K "is_row")) := T.c.def_ 4 (d := d_is_row)
theorem Tx.k_is_row {w : World} {K : Fr'} {mg : Str → Option Value} (T : Tx w K mg) : PySem.W.keepIn K (.ref (He.ga K "is_row")) = true := T.f_is_row.kp
theorem Tx.b_is_row {w : World} {K : Fr'} {mg : Str → Option Value} (T : Tx w K mg) : Binds K (fdOf K (He.ga K "is_row")) ["value", "length"] [] := FunD.bindsN (kws := d_is_row.kws K) (T.f_is_row) fun _ _ _ _ _ _ us hl => match us, hl with | [_, _], _ => rfl
theorem Tx.f_least_turning {w : World} {K : Fr'} {mg : Str → Option Value} (T : Tx w K mg) : FunD K "least_turning" "least_turning" (defArgs st_least_turning) (defBody st_least_turning) (defScope st_least_turning) (d_least_turning.dvs K) (d_least_turning.kws K) (He.ga K "least_turning") (fdOf K (He.ga K "least_turning")) := T.c.def_ 5 (d := d_least_turning)
theorem Tx.k_least_turning {w : World} {K : Fr'} {mg : Str → Option Value} (T : Tx w K mg) : PySem.W.keepIn K (.ref (He.ga K "least_turning")) = true := T.f_least_turning.kp
theorem Tx.b_least_turning {w : World} {K : Fr'} {mg : Str → Option Value} (T : Tx w K mg) : Binds K (fdOf K (He.ga K "least_turning")) ["text"] [] := FunD.bindsN (kws := d_least_turning.kws K) (T.f_least_turning) fun _ _ _ _ _ _ us hl => match us, hl with | [_], _ => rfl
theorem Tx.f_Ring_init {w : World} {K : Fr'} {mg : Str → Option Value} (T : Tx w K mg) : FunD K "__init__" "Ring.__init__" (defArgs st_Ring_init) (defBody st_Ring_init) (defScope st_Ring_init) (d_Ring_init.dvs K) (d_Ring_init.kws K) (He.ma K (He.ga K "Ring") "__init__") (fdOf K (He.ma K (He.ga K "Ring") "__init__")) := T.c.def_ 6 (d := d_Ring_init)
theorem Tx.b_Ring_init {w : World} {K : Fr'} {mg : Str → Option Value} (T : Tx w K mg) : Binds K (fdOf K (He.ma K (He.ga K "Ring") "__init__")) ["self", "text"] [] := FunD.bindsN (kws := d_Ring_init.kws K) (T.f_Ring_init) fun _ _ _ _ _ _ us hl => match us, hl with | [_, _], _ => rfl
theorem Tx.f_Ring_text {w : World} {K : Fr'} {mg : Str → Option Value} (T : Tx w K mg) : FunD K "text" "Ring.text" (defArgs st_Ring_text) (defBody st_Ring_text) (defScope st_Ring_text) (d_Ring_text.dvs K) (d_Ring_text.kws K) (He5.wf K (He.ga K "Ring") "property" "text") (fdOf K (He5.wf K (He.ga K "Ring") "property" "text")) := T.c.def_ 7 (d := d_Ring_text)
theorem Tx.b_Ring_text {w : World} {K : Fr'} {mg : Str → Option Value} (T : Tx w K mg) : Binds K (fdOf K (He5.wf K (He.ga K "Ring") "property" "text")) ["self"] [] := FunD.bindsN (kws := d_Ring_text.kws K) (T.f_Ring_text) fun _ _ _ _ _ _ us hl => match us, hl with | [_], _ => rfl
theorem Tx.f_Ring_eq {w : World} {K : Fr'} {mg : Str → Option Value} (T : Tx w K mg) : FunD K "__eq__" "Ring.__eq__" (defArgs st_Ring_eq) (defBody st_Ring_eq) (defScope st_Ring_eq) (d_Ring_eq.dvs K) (d_Ring_eq.kws K) (He.ma K (He.ga K "Ring") "__eq__") (fdOf K (He.ma K (He.ga K "Ring") "__eq__")) := T.c.def_ 8 (d := d_Ring_eq)
theorem Tx.b_Ring_eq {w : World} {K : Fr'} {mg : Str → Option Value} (T : Tx w K mg) : Binds K (fdOf K (He.ma K (He.ga K "Ring") "__eq__")) ["self", "other"] [] := FunD.bindsN (kws := d_Ring_eq.kws K) (T.f_Ring_eq) fun _ _ _ _ _ _ us hl => match us, hl with | [_, _], _ => rfl
theorem Tx.f_check_signs {w : World} {K : Fr'} {mg : Str → Option Value} (T : Tx w K mg) : FunD K "check_signs" "check_signs" (defArgs st_check_signs) (defBody st_check_signs) (defScope st_check_signs) (d_check_signs.dvs K) (d_check_signs.kws K) (He.ga K "check_signs") (fdOf K (He.ga K "check_signs")) := T.c.def_ 9 (d := d_check_signs)
theorem Tx.k_check_signs {w : World} {K : Fr'} {mg : Str → Option Value} (T : Tx w K mg) : PySem.W.keepIn K (.ref (He.ga K "check_signs")) = true := T.f_check_signs.kp
theorem Tx.b_check_signs {w : World} {K : Fr'} {mg : Str → Option Value} (T : Tx w K mg) : Binds K (fdOf K (He.ga K "check_signs")) ["signs"] [] := FunD.bindsN (kws := d_check_signs.kws K) (T.f_check_signs) fun _ _ _ _ _ _ us hl => match us, hl with | [_], _ => rfl
theorem Tx.f_check_pairs {w : World} {K : Fr'} {mg : Str → Option Value} (T : Tx w K mg) : FunD K "check_pairs" "check_pairs" (defArgs st_check_pairs) (defBody st_check_pairs) (defScope st_check_pairs) (d_check_pairs.dvs K) (d_check_pairs.kws K) (He.ga K "check_pairs") (fdOf K (He.ga K "check_pairs")) := T.c.def_ 10 (d := d_check_pairs)
theorem Tx.k_check_pairs {w : World} {K : Fr'} {mg : Str → Option Value} (T : Tx w K mg) : PySem.W.keepIn K (.ref (He.ga K "check_pairs")) = true := T.f_check_pairs.kp
theorem Tx.b_check_pairs {w : World} {K : Fr'} {mg : Str → Option Value} (T : Tx w K mg) : Binds K (fdOf K (He.ga K "check_pairs")) ["signs", "pairs"] [] := FunD.bindsN (kws := d_check_pairs.kws K) (T.f_check_pairs) fun _ _ _ _ _ _ us hl => match us, hl with | [_, _], _ => rfl
theorem Tx.f_Kind_init {w : World} {K : Fr'} {mg : Str → Option Value} (T : Tx w K mg) : FunD K "__init__" "Kind.__init__" (defArgs st_Kind_init) (defBody st_Kind_init) (defScope st_Kind_init) (d_Kind_init.dvs K) (d_Kind_init.kws K) (He.ma K (He.ga K "Kind") "__init__") (fdOf K (He.ma K (He.ga K "Kind") "__init__")) := T.c.def_ 11 (d := d_Kind_init)
theorem Tx.bf_Kind_init {w : World} {K : Fr'} {mg : Str → Option Value} (T : Tx w K mg) : Binds K (fdOf K (He.ma K (He.ga K "Kind") "__init__")) ["self", "signs", "pairs"] [] := by
  have h := FunD.binds1 (ps := ["self", "signs", "pairs"]) (T.f_Kind_init) 3 1 (by simp [d_Kind_init, He5.DefA.dvs]) (by rfl) (fun _ _ _ _ _ _ _ us its h1 h2 => match us, its, h1, h2 with | [_, _, _], [_], _, _ => ⟨_, rfl, rfl⟩)
  obtain ⟨ds, hv, hb⟩ := h
  have e : (d_Kind_init.dvs K).drop 1 = [] := rfl
  rw [e] at hv
  cases hv
  exact hb
theorem Tx.f_Kind_signs {w : World} {K : Fr'} {mg : Str → Option Value} (T : Tx w K mg) : FunD K "signs" "Kind.signs" (defArgs st_Kind_signs) (defBody st_Kind_signs) (defScope st_Kind_signs) (d_Kind_signs.dvs K) (d_Kind_signs.kws K) (He5.wf K (He.ga K "Kind") "property" "signs") (fdOf K (He5.wf K (He.ga K "Kind") "property" "signs")) := T.c.def_ 12 (d := d_Kind_signs)
theorem Tx.b_Kind_signs {w : World} {K : Fr'} {mg : Str → Option Value} (T : Tx w K mg) : Binds K (fdOf K (He5.wf K (He.ga K "Kind") "property" "signs")) ["self"] [] := FunD.bindsN (kws := d_Kind_signs.kws K) (T.f_Kind_signs) fun _ _ _ _ _ _ us hl => match us, hl with | [_], _ => rfl
theorem Tx.f_Kind_row {w : World} {K : Fr'} {mg : Str → Option Value} (T : Tx w K mg) : FunD K "row" "Kind.row" (defArgs st_Kind_row) (defBody st_Kind_row) (defScope st_Kind_row) (d_Kind_row.dvs K) (d_Kind_row.kws K) (He5.wf K (He.ga K "Kind") "property" "row") (fdOf K (He5.wf K (He.ga K "Kind") "property" "row")) := T.c.def_ 13 (d := d_Kind_row)
theorem Tx.b_Kind_row {w : World} {K : Fr'} {mg : Str → Option Value} (T : Tx w K mg) : Binds K (fdOf K (He5.wf K (He.ga K "Kind") "property" "row")) ["self"] [] := FunD.bindsN (kws := d_Kind_row.kws K) (T.f_Kind_row) fun _ _ _ _ _ _ us hl => match us, hl with | [_], _ => rfl
theorem Tx.f_Kind_made {w : World} {K : Fr'} {mg : Str → Option Value} (T : Tx w K mg) : FunD K "made" "Kind.made" (defArgs st_Kind_made) (defBody st_Kind_made) (defScope st_Kind_made) (d_Kind_made.dvs K) (d_Kind_made.kws K) (He5.wf K (He.ga K "Kind") "classmethod" "made") (fdOf K (He5.wf K (He.ga K "Kind") "classmethod" "made")) := T.c.def_ 14 (d := d_Kind_made)
theorem Tx.b_Kind_made {w : World} {K : Fr'} {mg : Str → Option Value} (T : Tx w K mg) : Binds K (fdOf K (He5.wf K (He.ga K "Kind") "classmethod" "made")) ["cls", "row"] [] := FunD.bindsN (kws := d_Kind_made.kws K) (T.f_Kind_made) fun _ _ _ _ _ _ us hl => match us, hl with | [_, _], _ => rfl
theorem Tx.f_Kind_closes {w : World} {K : Fr'} {mg : Str → Option Value} (T : Tx w K mg) : FunD K "closes" "Kind.closes" (defArgs st_Kind_closes) (defBody st_Kind_closes) (defScope st_Kind_closes) (d_Kind_closes.dvs K) (d_Kind_closes.kws K) (He.ma K (He.ga K "Kind") "closes") (fdOf K (He.ma K (He.ga K "Kind") "closes")) := T.c.def_ 15 (d := d_Kind_closes)
theorem Tx.b_Kind_closes {w : World} {K : Fr'} {mg : Str → Option Value} (T : Tx w K mg) : Binds K (fdOf K (He.ma K (He.ga K "Kind") "closes")) ["self", "text"] [] := FunD.bindsN (kws := d_Kind_closes.kws K) (T.f_Kind_closes) fun _ _ _ _ _ _ us hl => match us, hl with | [_, _], _ => rfl
theorem Tx.f_Kind_contains {w : World} {K : Fr'} {mg : Str → Option Value} (T : Tx w K mg) : FunD K "__contains__" "Kind.__contains__" (defArgs st_Kind_contains) (defBody st_Kind_contains) (defScope st_Kind_contains) (d_Kind_contains.dvs K) (d_Kind_contains.kws K) (He.ma K (He.ga K "Kind") "__contains__") (fdOf K (He.ma K (He.ga K "Kind") "__contains__")) := T.c.def_ 16 (d := d_Kind_contains)
theorem Tx.b_Kind_contains {w : World} {K : Fr'} {mg : Str → Option Value} (T : Tx w K mg) : Binds K (fdOf K (He.ma K (He.ga K "Kind") "__contains__")) ["self", "value"] [] := FunD.bindsN (kws := d_Kind_contains.kws K) (T.f_Kind_contains) fun _ _ _ _ _ _ us hl => match us, hl with | [_, _], _ => rfl
theorem Tx.f_place_of {w : World} {K : Fr'} {mg : Str → Option Value} (T : Tx w K mg) : FunD K "place_of" "place_of" (defArgs st_place_of) (defBody st_place_of) (defScope st_place_of) (d_place_of.dvs K) (d_place_of.kws K) (He.ga K "place_of") (fdOf K (He.ga K "place_of")) := T.c.def_ 17 (d := d_place_of)
theorem Tx.k_place_of {w : World} {K : Fr'} {mg : Str → Option Value} (T : Tx w K mg) : PySem.W.keepIn K (.ref (He.ga K "place_of")) = true := T.f_place_of.kp
theorem Tx.b_place_of {w : World} {K : Fr'} {mg : Str → Option Value} (T : Tx w K mg) : Binds K (fdOf K (He.ga K "place_of")) ["at", "size", "begin"] [] := FunD.bindsN (kws := d_place_of.kws K) (T.f_place_of) fun _ _ _ _ _ _ us hl => match us, hl with | [_, _, _], _ => rfl
theorem Tx.f_is_step {w : World} {K : Fr'} {mg : Str → Option Value} (T : Tx w K mg) : FunD K "is_step" "is_step" (defArgs st_is_step) (defBody st_is_step) (defScope st_is_step) (d_is_step.dvs K) (d_is_step.kws K) (He.ga K "is_step") (fdOf K (He.ga K "is_step")) := T.c.def_ 18 (d := d_is_step)
theorem Tx.k_is_step {w : World} {K : Fr'} {mg : Str → Option Value} (T : Tx w K mg) : PySem.W.keepIn K (.ref (He.ga K "is_step")) = true := T.f_is_step.kp
theorem Tx.b_is_step {w : World} {K : Fr'} {mg : Str → Option Value} (T : Tx w K mg) : Binds K (fdOf K (He.ga K "is_step")) ["row", "signs", "states"] [] := FunD.bindsN (kws := d_is_step.kws K) (T.f_is_step) fun _ _ _ _ _ _ us hl => match us, hl with | [_, _, _], _ => rfl
theorem Tx.f_is_turn {w : World} {K : Fr'} {mg : Str → Option Value} (T : Tx w K mg) : FunD K "is_turn" "is_turn" (defArgs st_is_turn) (defBody st_is_turn) (defScope st_is_turn) (d_is_turn.dvs K) (d_is_turn.kws K) (He.ga K "is_turn") (fdOf K (He.ga K "is_turn")) := T.c.def_ 19 (d := d_is_turn)
theorem Tx.k_is_turn {w : World} {K : Fr'} {mg : Str → Option Value} (T : Tx w K mg) : PySem.W.keepIn K (.ref (He.ga K "is_turn")) = true := T.f_is_turn.kp
theorem Tx.b_is_turn {w : World} {K : Fr'} {mg : Str → Option Value} (T : Tx w K mg) : Binds K (fdOf K (He.ga K "is_turn")) ["turn", "states"] [] := FunD.bindsN (kws := d_is_turn.kws K) (T.f_is_turn) fun _ _ _ _ _ _ us hl => match us, hl with | [_, _], _ => rfl
theorem Tx.f_check_states {w : World} {K : Fr'} {mg : Str → Option Value} (T : Tx w K mg) : FunD K "check_states" "check_states" (defArgs st_check_states) (defBody st_check_states) (defScope st_check_states) (d_check_states.dvs K) (d_check_states.kws K) (He.ga K "check_states") (fdOf K (He.ga K "check_states")) := T.c.def_ 20 (d := d_check_states)
theorem Tx.k_check_states {w : World} {K : Fr'} {mg : Str → Option Value} (T : Tx w K mg) : PySem.W.keepIn K (.ref (He.ga K "check_states")) = true := T.f_check_states.kp
theorem Tx.b_check_states {w : World} {K : Fr'} {mg : Str → Option Value} (T : Tx w K mg) : Binds K (fdOf K (He.ga K "check_states")) ["states"] [] := FunD.bindsN (kws := d_check_states.kws K) (T.f_check_states) fun _ _ _ _ _ _ us hl => match us, hl with | [_], _ => rfl
theorem Tx.f_check_rows {w : World} {K : Fr'} {mg : Str → Option Value} (T : Tx w K mg) : FunD K "check_rows" "check_rows" (defArgs st_check_rows) (defBody st_check_rows) (defScope st_check_rows) (d_check_rows.dvs K) (d_check_rows.kws K) (He.ga K "check_rows") (fdOf K (He.ga K "check_rows")) := T.c.def_ 21 (d := d_check_rows)
theorem Tx.k_check_rows {w : World} {K : Fr'} {mg : Str → Option Value} (T : Tx w K mg) : PySem.W.keepIn K (.ref (He.ga K "check_rows")) = true := T.f_check_rows.kp
theorem Tx.b_check_rows {w : World} {K : Fr'} {mg : Str → Option Value} (T : Tx w K mg) : Binds K (fdOf K (He.ga K "check_rows")) ["signs", "states", "rows"] [] := FunD.bindsN (kws := d_check_rows.kws K) (T.f_check_rows) fun _ _ _ _ _ _ us hl => match us, hl with | [_, _, _], _ => rfl
theorem Tx.f_check_turns {w : World} {K : Fr'} {mg : Str → Option Value} (T : Tx w K mg) : FunD K "check_turns" "check_turns" (defArgs st_check_turns) (defBody st_check_turns) (defScope st_check_turns) (d_check_turns.dvs K) (d_check_turns.kws K) (He.ga K "check_turns") (fdOf K (He.ga K "check_turns")) := T.c.def_ 22 (d := d_check_turns)
theorem Tx.k_check_turns {w : World} {K : Fr'} {mg : Str → Option Value} (T : Tx w K mg) : PySem.W.keepIn K (.ref (He.ga K "check_turns")) = true := T.f_check_turns.kp
theorem Tx.b_check_turns {w : World} {K : Fr'} {mg : Str → Option Value} (T : Tx w K mg) : Binds K (fdOf K (He.ga K "check_turns")) ["states", "turns"] [] := FunD.bindsN (kws := d_check_turns.kws K) (T.f_check_turns) fun _ _ _ _ _ _ us hl => match us, hl with | [_, _], _ => rfl
theorem Tx.f_check_yes {w : World} {K : Fr'} {mg : Str → Option Value} (T : Tx w K mg) : FunD K "check_yes" "check_yes" (defArgs st_check_yes) (defBody st_check_yes) (defScope st_check_yes) (d_check_yes.dvs K) (d_check_yes.kws K) (He.ga K "check_yes") (fdOf K (He.ga K "check_yes")) := T.c.def_ 23 (d := d_check_yes)
theorem Tx.k_check_yes {w : World} {K : Fr'} {mg : Str → Option Value} (T : Tx w K mg) : PySem.W.keepIn K (.ref (He.ga K "check_yes")) = true := T.f_check_yes.kp
theorem Tx.b_check_yes {w : World} {K : Fr'} {mg : Str → Option Value} (T : Tx w K mg) : Binds K (fdOf K (He.ga K "check_yes")) ["states", "yes"] [] := FunD.bindsN (kws := d_check_yes.kws K) (T.f_check_yes) fun _ _ _ _ _ _ us hl => match us, hl with | [_, _], _ => rfl
theorem Tx.f_Loop_init {w : World} {K : Fr'} {mg : Str → Option Value} (T : Tx w K mg) : FunD K "__init__" "Loop.__init__" (defArgs st_Loop_init) (defBody st_Loop_init) (defScope st_Loop_init) (d_Loop_init.dvs K) (d_Loop_init.kws K) (He.ma K (He.ga K "Loop") "__init__") (fdOf K (He.ma K (He.ga K "Loop") "__init__")) := T.c.def_ 24 (d := d_Loop_init)
theorem Tx.f_Loop_signs {w : World} {K : Fr'} {mg : Str → Option Value} (T : Tx w K mg) : FunD K "signs" "Loop.signs" (defArgs st_Loop_signs) (defBody st_Loop_signs) (defScope st_Loop_signs) (d_Loop_signs.dvs K) (d_Loop_signs.kws K) (He5.wf K (He.ga K "Loop") "property" "signs") (fdOf K (He5.wf K (He.ga K "Loop") "property" "signs")) := T.c.def_ 25 (d := d_Loop_signs)
theorem Tx.b_Loop_signs {w : World} {K : Fr'} {mg : Str → Option Value} (T : Tx w K mg) : Binds K (fdOf K (He5.wf K (He.ga K "Loop") "property" "signs")) ["self"] [] := FunD.bindsN (kws := d_Loop_signs.kws K) (T.f_Loop_signs) fun _ _ _ _ _ _ us hl => match us, hl with | [_], _ => rfl
theorem Tx.f_Loop_rows {w : World} {K : Fr'} {mg : Str → Option Value} (T : Tx w K mg) : FunD K "rows" "Loop.rows" (defArgs st_Loop_rows) (defBody st_Loop_rows) (defScope st_Loop_rows) (d_Loop_rows.dvs K) (d_Loop_rows.kws K) (He5.wf K (He.ga K "Loop") "property" "rows") (fdOf K (He5.wf K (He.ga K "Loop") "property" "rows")) := T.c.def_ 26 (d := d_Loop_rows)
theorem Tx.b_Loop_rows {w : World} {K : Fr'} {mg : Str → Option Value} (T : Tx w K mg) : Binds K (fdOf K (He5.wf K (He.ga K "Loop") "property" "rows")) ["self"] [] := FunD.bindsN (kws := d_Loop_rows.kws K) (T.f_Loop_rows) fun _ _ _ _ _ _ us hl => match us, hl with | [_], _ => rfl
theorem Tx.f_Loop_turns {w : World} {K : Fr'} {mg : Str → Option Value} (T : Tx w K mg) : FunD K "turns" "Loop.turns" (defArgs st_Loop_turns) (defBody st_Loop_turns) (defScope st_Loop_turns) (d_Loop_turns.dvs K) (d_Loop_turns.kws K) (He5.wf K (He.ga K "Loop") "property" "turns") (fdOf K (He5.wf K (He.ga K "Loop") "property" "turns")) := T.c.def_ 27 (d := d_Loop_turns)
theorem Tx.b_Loop_turns {w : World} {K : Fr'} {mg : Str → Option Value} (T : Tx w K mg) : Binds K (fdOf K (He5.wf K (He.ga K "Loop") "property" "turns")) ["self"] [] := FunD.bindsN (kws := d_Loop_turns.kws K) (T.f_Loop_turns) fun _ _ _ _ _ _ us hl => match us, hl with | [_], _ => rfl
theorem Tx.f_Loop_row {w : World} {K : Fr'} {mg : Str → Option Value} (T : Tx w K mg) : FunD K "row" "Loop.row" (defArgs st_Loop_row) (defBody st_Loop_row) (defScope st_Loop_row) (d_Loop_row.dvs K) (d_Loop_row.kws K) (He5.wf K (He.ga K "Loop") "property" "row") (fdOf K (He5.wf K (He.ga K "Loop") "property" "row")) := T.c.def_ 28 (d := d_Loop_row)
theorem Tx.b_Loop_row {w : World} {K : Fr'} {mg : Str → Option Value} (T : Tx w K mg) : Binds K (fdOf K (He5.wf K (He.ga K "Loop") "property" "row")) ["self"] [] := FunD.bindsN (kws := d_Loop_row.kws K) (T.f_Loop_row) fun _ _ _ _ _ _ us hl => match us, hl with | [_], _ => rfl
theorem Tx.f_Loop_made {w : World} {K : Fr'} {mg : Str → Option Value} (T : Tx w K mg) : FunD K "made" "Loop.made" (defArgs st_Loop_made) (defBody st_Loop_made) (defScope st_Loop_made) (d_Loop_made.dvs K) (d_Loop_made.kws K) (He5.wf K (He.ga K "Loop") "classmethod" "made") (fdOf K (He5.wf K (He.ga K "Loop") "classmethod" "made")) := T.c.def_ 29 (d := d_Loop_made)
theorem Tx.b_Loop_made {w : World} {K : Fr'} {mg : Str → Option Value} (T : Tx w K mg) : Binds K (fdOf K (He5.wf K (He.ga K "Loop") "classmethod" "made")) ["cls", "row"] [] := FunD.bindsN (kws := d_Loop_made.kws K) (T.f_Loop_made) fun _ _ _ _ _ _ us hl => match us, hl with | [_, _], _ => rfl
theorem Tx.f_Loop_round_from {w : World} {K : Fr'} {mg : Str → Option Value} (T : Tx w K mg) : FunD K "round_from" "Loop.round_from" (defArgs st_Loop_round_from) (defBody st_Loop_round_from) (defScope st_Loop_round_from) (d_Loop_round_from.dvs K) (d_Loop_round_from.kws K) (He.ma K (He.ga K "Loop") "round_from") (fdOf K (He.ma K (He.ga K "Loop") "round_from")) := T.c.def_ 30 (d := d_Loop_round_from)
theorem Tx.b_Loop_round_from {w : World} {K : Fr'} {mg : Str → Option Value} (T : Tx w K mg) : Binds K (fdOf K (He.ma K (He.ga K "Loop") "round_from")) ["self", "state", "text"] [] := FunD.bindsN (kws := d_Loop_round_from.kws K) (T.f_Loop_round_from) fun _ _ _ _ _ _ us hl => match us, hl with | [_, _, _], _ => rfl
theorem Tx.f_Loop_history {w : World} {K : Fr'} {mg : Str → Option Value} (T : Tx w K mg) : FunD K "history" "Loop.history" (defArgs st_Loop_history) (defBody st_Loop_history) (defScope st_Loop_history) (d_Loop_history.dvs K) (d_Loop_history.kws K) (He.ma K (He.ga K "Loop") "history") (fdOf K (He.ma K (He.ga K "Loop") "history")) := T.c.def_ 31 (d := d_Loop_history)
theorem Tx.b_Loop_history {w : World} {K : Fr'} {mg : Str → Option Value} (T : Tx w K mg) : Binds K (fdOf K (He.ma K (He.ga K "Loop") "history")) ["self", "text"] [] := FunD.bindsN (kws := d_Loop_history.kws K) (T.f_Loop_history) fun _ _ _ _ _ _ us hl => match us, hl with | [_, _], _ => rfl
theorem Tx.f_Loop_answer {w : World} {K : Fr'} {mg : Str → Option Value} (T : Tx w K mg) : FunD K "answer" "Loop.answer" (defArgs st_Loop_answer) (defBody st_Loop_answer) (defScope st_Loop_answer) (d_Loop_answer.dvs K) (d_Loop_answer.kws K) (He.ma K (He.ga K "Loop") "answer") (fdOf K (He.ma K (He.ga K "Loop") "answer")) := T.c.def_ 32 (d := d_Loop_answer)
theorem Tx.b_Loop_answer {w : World} {K : Fr'} {mg : Str → Option Value} (T : Tx w K mg) : Binds K (fdOf K (He.ma K (He.ga K "Loop") "answer")) ["self", "text", "lap"] [] := FunD.bindsN (kws := d_Loop_answer.kws K) (T.f_Loop_answer) fun _ _ _ _ _ _ us hl => match us, hl with | [_, _, _], _ => rfl
theorem Tx.f_is_lap {w : World} {K : Fr'} {mg : Str → Option Value} (T : Tx w K mg) : FunD K "is_lap" "is_lap" (defArgs st_is_lap) (defBody st_is_lap) (defScope st_is_lap) (d_is_lap.dvs K) (d_is_lap.kws K) (He.ga K "is_lap") (fdOf K (He.ga K "is_lap")) := T.c.def_ 33 (d := d_is_lap)
theorem Tx.k_is_lap {w : World} {K : Fr'} {mg : Str → Option Value} (T : Tx w K mg) : PySem.W.keepIn K (.ref (He.ga K "is_lap")) = true := T.f_is_lap.kp
theorem Tx.b_is_lap {w : World} {K : Fr'} {mg : Str → Option Value} (T : Tx w K mg) : Binds K (fdOf K (He.ga K "is_lap")) ["value"] [] := FunD.bindsN (kws := d_is_lap.kws K) (T.f_is_lap) fun _ _ _ _ _ _ us hl => match us, hl with | [_], _ => rfl
theorem Tx.f_shows_differ {w : World} {K : Fr'} {mg : Str → Option Value} (T : Tx w K mg) : FunD K "shows_differ" "shows_differ" (defArgs st_shows_differ) (defBody st_shows_differ) (defScope st_shows_differ) (d_shows_differ.dvs K) (d_shows_differ.kws K) (He.ga K "shows_differ") (fdOf K (He.ga K "shows_differ")) := T.c.def_ 34 (d := d_shows_differ)
theorem Tx.k_shows_differ {w : World} {K : Fr'} {mg : Str → Option Value} (T : Tx w K mg) : PySem.W.keepIn K (.ref (He.ga K "shows_differ")) = true := T.f_shows_differ.kp
theorem Tx.b_shows_differ {w : World} {K : Fr'} {mg : Str → Option Value} (T : Tx w K mg) : Binds K (fdOf K (He.ga K "shows_differ")) ["loop", "kind", "rest", "certificate"] [] := FunD.bindsN (kws := d_shows_differ.kws K) (T.f_shows_differ) fun _ _ _ _ _ _ us hl => match us, hl with | [_, _, _, _], _ => rfl
theorem Tx.f_loop_of {w : World} {K : Fr'} {mg : Str → Option Value} (T : Tx w K mg) : FunD K "loop_of" "loop_of" (defArgs st_loop_of) (defBody st_loop_of) (defScope st_loop_of) (d_loop_of.dvs K) (d_loop_of.kws K) (He.ga K "loop_of") (fdOf K (He.ga K "loop_of")) := T.c.def_ 35 (d := d_loop_of)
theorem Tx.k_loop_of {w : World} {K : Fr'} {mg : Str → Option Value} (T : Tx w K mg) : PySem.W.keepIn K (.ref (He.ga K "loop_of")) = true := T.f_loop_of.kp
theorem Tx.b_loop_of {w : World} {K : Fr'} {mg : Str → Option Value} (T : Tx w K mg) : Binds K (fdOf K (He.ga K "loop_of")) ["value"] [] := FunD.bindsN (kws := d_loop_of.kws K) (T.f_loop_of) fun _ _ _ _ _ _ us hl => match us, hl with | [_], _ => rfl
theorem Tx.f_kind_of {w : World} {K : Fr'} {mg : Str → Option Value} (T : Tx w K mg) : FunD K "kind_of" "kind_of" (defArgs st_kind_of) (defBody st_kind_of) (defScope st_kind_of) (d_kind_of.dvs K) (d_kind_of.kws K) (He.ga K "kind_of") (fdOf K (He.ga K "kind_of")) := T.c.def_ 36 (d := d_kind_of)
theorem Tx.k_kind_of {w : World} {K : Fr'} {mg : Str → Option Value} (T : Tx w K mg) : PySem.W.keepIn K (.ref (He.ga K "kind_of")) = true := T.f_kind_of.kp
theorem Tx.b_kind_of {w : World} {K : Fr'} {mg : Str → Option Value} (T : Tx w K mg) : Binds K (fdOf K (He.ga K "kind_of")) ["value"] [] := FunD.bindsN (kws := d_kind_of.kws K) (T.f_kind_of) fun _ _ _ _ _ _ us hl => match us, hl with | [_], _ => rfl
theorem Tx.f_accepts {w : World} {K : Fr'} {mg : Str → Option Value} (T : Tx w K mg) : FunD K "accepts" "accepts" (defArgs st_accepts) (defBody st_accepts) (defScope st_accepts) (d_accepts.dvs K) (d_accepts.kws K) (He.ga K "accepts") (fdOf K (He.ga K "accepts")) := T.c.def_ 37 (d := d_accepts)
theorem Tx.k_accepts {w : World} {K : Fr'} {mg : Str → Option Value} (T : Tx w K mg) : PySem.W.keepIn K (.ref (He.ga K "accepts")) = true := T.f_accepts.kp
theorem Tx.b_accepts {w : World} {K : Fr'} {mg : Str → Option Value} (T : Tx w K mg) : Binds K (fdOf K (He.ga K "accepts")) ["claim", "certificate"] [] := FunD.bindsN (kws := d_accepts.kws K) (T.f_accepts) fun _ _ _ _ _ _ us hl => match us, hl with | [_, _], _ => rfl
theorem Tx.f_law7_cell {w : World} {K : Fr'} {mg : Str → Option Value} (T : Tx w K mg) : FunD K "_law_cell" "_law_cell" (defArgs st_law7_cell) (defBody st_law7_cell) (defScope st_law7_cell) (d_law7_cell.dvs K) (d_law7_cell.kws K) (He.ga K "_law_cell") (fdOf K (He.ga K "_law_cell")) := T.c.def_ 38 (d := d_law7_cell)
theorem Tx.k_law7_cell {w : World} {K : Fr'} {mg : Str → Option Value} (T : Tx w K mg) : PySem.W.keepIn K (.ref (He.ga K "_law_cell")) = true := T.f_law7_cell.kp
theorem Tx.b_law7_cell {w : World} {K : Fr'} {mg : Str → Option Value} (T : Tx w K mg) : Binds K (fdOf K (He.ga K "_law_cell")) ["_law_cells", "_law_at"] [] := FunD.bindsN (kws := d_law7_cell.kws K) (T.f_law7_cell) fun _ _ _ _ _ _ us hl => match us, hl with | [_, _], _ => rfl
theorem Tx.f_law7_purse {w : World} {K : Fr'} {mg : Str → Option Value} (T : Tx w K mg) : FunD K "_law_purse" "_law_purse" (defArgs st_law7_purse) (defBody st_law7_purse) (defScope st_law7_purse) (d_law7_purse.dvs K) (d_law7_purse.kws K) (He.ga K "_law_purse") (fdOf K (He.ga K "_law_purse")) := T.c.def_ 39 (d := d_law7_purse)
theorem Tx.k_law7_purse {w : World} {K : Fr'} {mg : Str → Option Value} (T : Tx w K mg) : PySem.W.keepIn K (.ref (He.ga K "_law_purse")) = true := T.f_law7_purse.kp
theorem Tx.b_law7_purse {w : World} {K : Fr'} {mg : Str → Option Value} (T : Tx w K mg) : Binds K (fdOf K (He.ga K "_law_purse")) ["_law_cell_here"] [] := FunD.bindsN (kws := d_law7_purse.kws K) (T.f_law7_purse) fun _ _ _ _ _ _ us hl => match us, hl with | [_], _ => rfl
theorem Tx.f_law7_pick {w : World} {K : Fr'} {mg : Str → Option Value} (T : Tx w K mg) : FunD K "_law_pick" "_law_pick" (defArgs st_law7_pick) (defBody st_law7_pick) (defScope st_law7_pick) (d_law7_pick.dvs K) (d_law7_pick.kws K) (He.ga K "_law_pick") (fdOf K (He.ga K "_law_pick")) := T.c.def_ 40 (d := d_law7_pick)
theorem Tx.k_law7_pick {w : World} {K : Fr'} {mg : Str → Option Value} (T : Tx w K mg) : PySem.W.keepIn K (.ref (He.ga K "_law_pick")) = true := T.f_law7_pick.kp
theorem Tx.b_law7_pick {w : World} {K : Fr'} {mg : Str → Option Value} (T : Tx w K mg) : Binds K (fdOf K (He.ga K "_law_pick")) ["_law_purse_here", "_law_many"] [] := FunD.bindsN (kws := d_law7_pick.kws K) (T.f_law7_pick) fun _ _ _ _ _ _ us hl => match us, hl with | [_, _], _ => rfl
theorem Tx.f_law_wholeK {w : World} {K : Fr'} {mg : Str → Option Value} (T : Tx w K mg) : FunD K "_law_whole" "_law_whole" (defArgs st_law_wholeK) (defBody st_law_wholeK) (defScope st_law_wholeK) (d_law_wholeK.dvs K) (d_law_wholeK.kws K) (He.ga K "_law_whole") (fdOf K (He.ga K "_law_whole")) := T.c.def_ 41 (d := d_law_wholeK)
theorem Tx.k_law_wholeK {w : World} {K : Fr'} {mg : Str → Option Value} (T : Tx w K mg) : PySem.W.keepIn K (.ref (He.ga K "_law_whole")) = true := T.f_law_wholeK.kp
theorem Tx.b_law_wholeK {w : World} {K : Fr'} {mg : Str → Option Value} (T : Tx w K mg) : Binds K (fdOf K (He.ga K "_law_whole")) ["_law_thing"] [] := FunD.bindsN (kws := d_law_wholeK.kws K) (T.f_law_wholeK) fun _ _ _ _ _ _ us hl => match us, hl with | [_], _ => rfl
theorem Tx.f_law7_amount {w : World} {K : Fr'} {mg : Str → Option Value} (T : Tx w K mg) : FunD K "_law_amount" "_law_amount" (defArgs st_law7_amount) (defBody st_law7_amount) (defScope st_law7_amount) (d_law7_amount.dvs K) (d_law7_amount.kws K) (He.ga K "_law_amount") (fdOf K (He.ga K "_law_amount")) := T.c.def_ 42 (d := d_law7_amount)
theorem Tx.k_law7_amount {w : World} {K : Fr'} {mg : Str → Option Value} (T : Tx w K mg) : PySem.W.keepIn K (.ref (He.ga K "_law_amount")) = true := T.f_law7_amount.kp
theorem Tx.b_law7_amount {w : World} {K : Fr'} {mg : Str → Option Value} (T : Tx w K mg) : Binds K (fdOf K (He.ga K "_law_amount")) ["_law_purse_here"] [] := FunD.bindsN (kws := d_law7_amount.kws K) (T.f_law7_amount) fun _ _ _ _ _ _ us hl => match us, hl with | [_], _ => rfl
theorem Tx.f_law7_signs {w : World} {K : Fr'} {mg : Str → Option Value} (T : Tx w K mg) : FunD K "_law_signs" "_law_signs" (defArgs st_law7_signs) (defBody st_law7_signs) (defScope st_law7_signs) (d_law7_signs.dvs K) (d_law7_signs.kws K) (He.ga K "_law_signs") (fdOf K (He.ga K "_law_signs")) := T.c.def_ 43 (d := d_law7_signs)
theorem Tx.k_law7_signs {w : World} {K : Fr'} {mg : Str → Option Value} (T : Tx w K mg) : PySem.W.keepIn K (.ref (He.ga K "_law_signs")) = true := T.f_law7_signs.kp
theorem Tx.b_law7_signs {w : World} {K : Fr'} {mg : Str → Option Value} (T : Tx w K mg) : Binds K (fdOf K (He.ga K "_law_signs")) ["_law_purse_here"] [] := FunD.bindsN (kws := d_law7_signs.kws K) (T.f_law7_signs) fun _ _ _ _ _ _ us hl => match us, hl with | [_], _ => rfl
theorem Tx.f_law7_wider {w : World} {K : Fr'} {mg : Str → Option Value} (T : Tx w K mg) : FunD K "_law_wider" "_law_wider" (defArgs st_law7_wider) (defBody st_law7_wider) (defScope st_law7_wider) (d_law7_wider.dvs K) (d_law7_wider.kws K) (He.ga K "_law_wider") (fdOf K (He.ga K "_law_wider")) := T.c.def_ 44 (d := d_law7_wider)
theorem Tx.k_law7_wider {w : World} {K : Fr'} {mg : Str → Option Value} (T : Tx w K mg) : PySem.W.keepIn K (.ref (He.ga K "_law_wider")) = true := T.f_law7_wider.kp
theorem Tx.b_law7_wider {w : World} {K : Fr'} {mg : Str → Option Value} (T : Tx w K mg) : Binds K (fdOf K (He.ga K "_law_wider")) ["_law_purse_here", "_law_signs_here"] [] := FunD.bindsN (kws := d_law7_wider.kws K) (T.f_law7_wider) fun _ _ _ _ _ _ us hl => match us, hl with | [_, _], _ => rfl
theorem Tx.f_law7_model {w : World} {K : Fr'} {mg : Str → Option Value} (T : Tx w K mg) : FunD K "_law_model" "_law_model" (defArgs st_law7_model) (defBody st_law7_model) (defScope st_law7_model) (d_law7_model.dvs K) (d_law7_model.kws K) (He.ga K "_law_model") (fdOf K (He.ga K "_law_model")) := T.c.def_ 45 (d := d_law7_model)
theorem Tx.k_law7_model {w : World} {K : Fr'} {mg : Str → Option Value} (T : Tx w K mg) : PySem.W.keepIn K (.ref (He.ga K "_law_model")) = true := T.f_law7_model.kp
theorem Tx.b_law7_model {w : World} {K : Fr'} {mg : Str → Option Value} (T : Tx w K mg) : Binds K (fdOf K (He.ga K "_law_model")) ["_law_purse_here", "_law_signs_here", "_law_most"] [] := FunD.bindsN (kws := d_law7_model.kws K) (T.f_law7_model) fun _ _ _ _ _ _ us hl => match us, hl with | [_, _, _], _ => rfl
theorem Tx.f_law7_tags {w : World} {K : Fr'} {mg : Str → Option Value} (T : Tx w K mg) : FunD K "_law_tags" "_law_tags" (defArgs st_law7_tags) (defBody st_law7_tags) (defScope st_law7_tags) (d_law7_tags.dvs K) (d_law7_tags.kws K) (He.ga K "_law_tags") (fdOf K (He.ga K "_law_tags")) := T.c.def_ 46 (d := d_law7_tags)
theorem Tx.k_law7_tags {w : World} {K : Fr'} {mg : Str → Option Value} (T : Tx w K mg) : PySem.W.keepIn K (.ref (He.ga K "_law_tags")) = true := T.f_law7_tags.kp
theorem Tx.b_law7_tags {w : World} {K : Fr'} {mg : Str → Option Value} (T : Tx w K mg) : Binds K (fdOf K (He.ga K "_law_tags")) ["_law_purse_here", "_law_size"] [] := FunD.bindsN (kws := d_law7_tags.kws K) (T.f_law7_tags) fun _ _ _ _ _ _ us hl => match us, hl with | [_, _], _ => rfl
theorem Tx.f_law7_row {w : World} {K : Fr'} {mg : Str → Option Value} (T : Tx w K mg) : FunD K "_law_row" "_law_row" (defArgs st_law7_row) (defBody st_law7_row) (defScope st_law7_row) (d_law7_row.dvs K) (d_law7_row.kws K) (He.ga K "_law_row") (fdOf K (He.ga K "_law_row")) := T.c.def_ 47 (d := d_law7_row)
theorem Tx.k_law7_row {w : World} {K : Fr'} {mg : Str → Option Value} (T : Tx w K mg) : PySem.W.keepIn K (.ref (He.ga K "_law_row")) = true := T.f_law7_row.kp
theorem Tx.b_law7_row {w : World} {K : Fr'} {mg : Str → Option Value} (T : Tx w K mg) : Binds K (fdOf K (He.ga K "_law_row")) ["_law_model_here", "_law_tags_here"] [] := FunD.bindsN (kws := d_law7_row.kws K) (T.f_law7_row) fun _ _ _ _ _ _ us hl => match us, hl with | [_, _], _ => rfl
theorem Tx.f_law7_pairs {w : World} {K : Fr'} {mg : Str → Option Value} (T : Tx w K mg) : FunD K "_law_pairs" "_law_pairs" (defArgs st_law7_pairs) (defBody st_law7_pairs) (defScope st_law7_pairs) (d_law7_pairs.dvs K) (d_law7_pairs.kws K) (He.ga K "_law_pairs") (fdOf K (He.ga K "_law_pairs")) := T.c.def_ 48 (d := d_law7_pairs)
theorem Tx.k_law7_pairs {w : World} {K : Fr'} {mg : Str → Option Value} (T : Tx w K mg) : PySem.W.keepIn K (.ref (He.ga K "_law_pairs")) = true := T.f_law7_pairs.kp
theorem Tx.b_law7_pairs {w : World} {K : Fr'} {mg : Str → Option Value} (T : Tx w K mg) : Binds K (fdOf K (He.ga K "_law_pairs")) ["_law_purse_here", "_law_signs_here"] [] := FunD.bindsN (kws := d_law7_pairs.kws K) (T.f_law7_pairs) fun _ _ _ _ _ _ us hl => match us, hl with | [_, _], _ => rfl
theorem Tx.f_law7_words {w : World} {K : Fr'} {mg : Str → Option Value} (T : Tx w K mg) : FunD K "_law_words" "_law_words" (defArgs st_law7_words) (defBody st_law7_words) (defScope st_law7_words) (d_law7_words.dvs K) (d_law7_words.kws K) (He.ga K "_law_words") (fdOf K (He.ga K "_law_words")) := T.c.def_ 49 (d := d_law7_words)
theorem Tx.k_law7_words {w : World} {K : Fr'} {mg : Str → Option Value} (T : Tx w K mg) : PySem.W.keepIn K (.ref (He.ga K "_law_words")) = true := T.f_law7_words.kp
theorem Tx.b_law7_words {w : World} {K : Fr'} {mg : Str → Option Value} (T : Tx w K mg) : Binds K (fdOf K (He.ga K "_law_words")) ["_law_signs_here", "_law_pairs_here", "_law_most"] [] := FunD.bindsN (kws := d_law7_words.kws K) (T.f_law7_words) fun _ _ _ _ _ _ us hl => match us, hl with | [_, _, _], _ => rfl
theorem Tx.f_law7_answers {w : World} {K : Fr'} {mg : Str → Option Value} (T : Tx w K mg) : FunD K "_law_answers" "_law_answers" (defArgs st_law7_answers) (defBody st_law7_answers) (defScope st_law7_answers) (d_law7_answers.dvs K) (d_law7_answers.kws K) (He.ga K "_law_answers") (fdOf K (He.ga K "_law_answers")) := T.c.def_ 50 (d := d_law7_answers)
theorem Tx.k_law7_answers {w : World} {K : Fr'} {mg : Str → Option Value} (T : Tx w K mg) : PySem.W.keepIn K (.ref (He.ga K "_law_answers")) = true := T.f_law7_answers.kp
theorem Tx.b_law7_answers {w : World} {K : Fr'} {mg : Str → Option Value} (T : Tx w K mg) : Binds K (fdOf K (He.ga K "_law_answers")) ["_law_model_here", "_law_word", "_law_many"] [] := FunD.bindsN (kws := d_law7_answers.kws K) (T.f_law7_answers) fun _ _ _ _ _ _ us hl => match us, hl with | [_, _, _], _ => rfl
theorem Tx.f_law7_near {w : World} {K : Fr'} {mg : Str → Option Value} (T : Tx w K mg) : FunD K "_law_near" "_law_near" (defArgs st_law7_near) (defBody st_law7_near) (defScope st_law7_near) (d_law7_near.dvs K) (d_law7_near.kws K) (He.ga K "_law_near") (fdOf K (He.ga K "_law_near")) := T.c.def_ 51 (d := d_law7_near)
theorem Tx.k_law7_near {w : World} {K : Fr'} {mg : Str → Option Value} (T : Tx w K mg) : PySem.W.keepIn K (.ref (He.ga K "_law_near")) = true := T.f_law7_near.kp
theorem Tx.b_law7_near {w : World} {K : Fr'} {mg : Str → Option Value} (T : Tx w K mg) : Binds K (fdOf K (He.ga K "_law_near")) ["_law_lap_here", "_law_size"] [] := FunD.bindsN (kws := d_law7_near.kws K) (T.f_law7_near) fun _ _ _ _ _ _ us hl => match us, hl with | [_, _], _ => rfl
theorem Tx.f_law7_answer {w : World} {K : Fr'} {mg : Str → Option Value} (T : Tx w K mg) : FunD K "_law_answer" "_law_answer" (defArgs st_law7_answer) (defBody st_law7_answer) (defScope st_law7_answer) (d_law7_answer.dvs K) (d_law7_answer.kws K) (He.ga K "_law_answer") (fdOf K (He.ga K "_law_answer")) := T.c.def_ 52 (d := d_law7_answer)
theorem Tx.k_law7_answer {w : World} {K : Fr'} {mg : Str → Option Value} (T : Tx w K mg) : PySem.W.keepIn K (.ref (He.ga K "_law_answer")) = true := T.f_law7_answer.kp
theorem Tx.b_law7_answer {w : World} {K : Fr'} {mg : Str → Option Value} (T : Tx w K mg) : Binds K (fdOf K (He.ga K "_law_answer")) ["_law_model_here", "_law_word", "_law_lap_here"] [] := FunD.bindsN (kws := d_law7_answer.kws K) (T.f_law7_answer) fun _ _ _ _ _ _ us hl => match us, hl with | [_, _, _], _ => rfl
theorem Tx.f_law7_odd {w : World} {K : Fr'} {mg : Str → Option Value} (T : Tx w K mg) : FunD K "_law_odd" "_law_odd" (defArgs st_law7_odd) (defBody st_law7_odd) (defScope st_law7_odd) (d_law7_odd.dvs K) (d_law7_odd.kws K) (He.ga K "_law_odd") (fdOf K (He.ga K "_law_odd")) := T.c.def_ 53 (d := d_law7_odd)
theorem Tx.k_law7_odd {w : World} {K : Fr'} {mg : Str → Option Value} (T : Tx w K mg) : PySem.W.keepIn K (.ref (He.ga K "_law_odd")) = true := T.f_law7_odd.kp
theorem Tx.b_law7_odd {w : World} {K : Fr'} {mg : Str → Option Value} (T : Tx w K mg) : Binds K (fdOf K (He.ga K "_law_odd")) ["_law_purse_here"] [] := FunD.bindsN (kws := d_law7_odd.kws K) (T.f_law7_odd) fun _ _ _ _ _ _ us hl => match us, hl with | [_], _ => rfl
theorem Tx.f_law7_bent {w : World} {K : Fr'} {mg : Str → Option Value} (T : Tx w K mg) : FunD K "_law_bent" "_law_bent" (defArgs st_law7_bent) (defBody st_law7_bent) (defScope st_law7_bent) (d_law7_bent.dvs K) (d_law7_bent.kws K) (He.ga K "_law_bent") (fdOf K (He.ga K "_law_bent")) := T.c.def_ 54 (d := d_law7_bent)
theorem Tx.k_law7_bent {w : World} {K : Fr'} {mg : Str → Option Value} (T : Tx w K mg) : PySem.W.keepIn K (.ref (He.ga K "_law_bent")) = true := T.f_law7_bent.kp
theorem Tx.b_law7_bent {w : World} {K : Fr'} {mg : Str → Option Value} (T : Tx w K mg) : Binds K (fdOf K (He.ga K "_law_bent")) ["_law_purse_here", "_law_thing"] [] := FunD.bindsN (kws := d_law7_bent.kws K) (T.f_law7_bent) fun _ _ _ _ _ _ us hl => match us, hl with | [_, _], _ => rfl
theorem Tx.f_law7_is_ring {w : World} {K : Fr'} {mg : Str → Option Value} (T : Tx w K mg) : FunD K "_law_is_ring" "_law_is_ring" (defArgs st_law7_is_ring) (defBody st_law7_is_ring) (defScope st_law7_is_ring) (d_law7_is_ring.dvs K) (d_law7_is_ring.kws K) (He.ga K "_law_is_ring") (fdOf K (He.ga K "_law_is_ring")) := T.c.def_ 55 (d := d_law7_is_ring)
theorem Tx.k_law7_is_ring {w : World} {K : Fr'} {mg : Str → Option Value} (T : Tx w K mg) : PySem.W.keepIn K (.ref (He.ga K "_law_is_ring")) = true := T.f_law7_is_ring.kp
theorem Tx.b_law7_is_ring {w : World} {K : Fr'} {mg : Str → Option Value} (T : Tx w K mg) : Binds K (fdOf K (He.ga K "_law_is_ring")) ["_law_word", "_law_pairs_here"] [] := FunD.bindsN (kws := d_law7_is_ring.kws K) (T.f_law7_is_ring) fun _ _ _ _ _ _ us hl => match us, hl with | [_, _], _ => rfl
theorem Tx.f_law7_turns {w : World} {K : Fr'} {mg : Str → Option Value} (T : Tx w K mg) : FunD K "_law_turns" "_law_turns" (defArgs st_law7_turns) (defBody st_law7_turns) (defScope st_law7_turns) (d_law7_turns.dvs K) (d_law7_turns.kws K) (He.ga K "_law_turns") (fdOf K (He.ga K "_law_turns")) := T.c.def_ 56 (d := d_law7_turns)
theorem Tx.k_law7_turns {w : World} {K : Fr'} {mg : Str → Option Value} (T : Tx w K mg) : PySem.W.keepIn K (.ref (He.ga K "_law_turns")) = true := T.f_law7_turns.kp
theorem Tx.b_law7_turns {w : World} {K : Fr'} {mg : Str → Option Value} (T : Tx w K mg) : Binds K (fdOf K (He.ga K "_law_turns")) ["_law_one", "_law_other"] [] := FunD.bindsN (kws := d_law7_turns.kws K) (T.f_law7_turns) fun _ _ _ _ _ _ us hl => match us, hl with | [_, _], _ => rfl
theorem Tx.f_law7_is_word {w : World} {K : Fr'} {mg : Str → Option Value} (T : Tx w K mg) : FunD K "_law_is_word" "_law_is_word" (defArgs st_law7_is_word) (defBody st_law7_is_word) (defScope st_law7_is_word) (d_law7_is_word.dvs K) (d_law7_is_word.kws K) (He.ga K "_law_is_word") (fdOf K (He.ga K "_law_is_word")) := T.c.def_ 57 (d := d_law7_is_word)
theorem Tx.k_law7_is_word {w : World} {K : Fr'} {mg : Str → Option Value} (T : Tx w K mg) : PySem.W.keepIn K (.ref (He.ga K "_law_is_word")) = true := T.f_law7_is_word.kp
theorem Tx.b_law7_is_word {w : World} {K : Fr'} {mg : Str → Option Value} (T : Tx w K mg) : Binds K (fdOf K (He.ga K "_law_is_word")) ["_law_thing"] [] := FunD.bindsN (kws := d_law7_is_word.kws K) (T.f_law7_is_word) fun _ _ _ _ _ _ us hl => match us, hl with | [_], _ => rfl
theorem Tx.f_law7_is_lap {w : World} {K : Fr'} {mg : Str → Option Value} (T : Tx w K mg) : FunD K "_law_is_lap" "_law_is_lap" (defArgs st_law7_is_lap) (defBody st_law7_is_lap) (defScope st_law7_is_lap) (d_law7_is_lap.dvs K) (d_law7_is_lap.kws K) (He.ga K "_law_is_lap") (fdOf K (He.ga K "_law_is_lap")) := T.c.def_ 58 (d := d_law7_is_lap)
theorem Tx.k_law7_is_lap {w : World} {K : Fr'} {mg : Str → Option Value} (T : Tx w K mg) : PySem.W.keepIn K (.ref (He.ga K "_law_is_lap")) = true := T.f_law7_is_lap.kp
theorem Tx.b_law7_is_lap {w : World} {K : Fr'} {mg : Str → Option Value} (T : Tx w K mg) : Binds K (fdOf K (He.ga K "_law_is_lap")) ["_law_thing"] [] := FunD.bindsN (kws := d_law7_is_lap.kws K) (T.f_law7_is_lap) fun _ _ _ _ _ _ us hl => match us, hl with | [_], _ => rfl
theorem Tx.f_law7_lap {w : World} {K : Fr'} {mg : Str → Option Value} (T : Tx w K mg) : FunD K "_law_lap" "_law_lap" (defArgs st_law7_lap) (defBody st_law7_lap) (defScope st_law7_lap) (d_law7_lap.dvs K) (d_law7_lap.kws K) (He.ga K "_law_lap") (fdOf K (He.ga K "_law_lap")) := T.c.def_ 59 (d := d_law7_lap)
theorem Tx.k_law7_lap {w : World} {K : Fr'} {mg : Str → Option Value} (T : Tx w K mg) : PySem.W.keepIn K (.ref (He.ga K "_law_lap")) = true := T.f_law7_lap.kp
theorem Tx.b_law7_lap {w : World} {K : Fr'} {mg : Str → Option Value} (T : Tx w K mg) : Binds K (fdOf K (He.ga K "_law_lap")) ["_law_purse_here"] [] := FunD.bindsN (kws := d_law7_lap.kws K) (T.f_law7_lap) fun _ _ _ _ _ _ us hl => match us, hl with | [_], _ => rfl
theorem Tx.f_law7_accepted {w : World} {K : Fr'} {mg : Str → Option Value} (T : Tx w K mg) : FunD K "_law_accepted" "_law_accepted" (defArgs st_law7_accepted) (defBody st_law7_accepted) (defScope st_law7_accepted) (d_law7_accepted.dvs K) (d_law7_accepted.kws K) (He.ga K "_law_accepted") (fdOf K (He.ga K "_law_accepted")) := T.c.def_ 60 (d := d_law7_accepted)
theorem Tx.k_law7_accepted {w : World} {K : Fr'} {mg : Str → Option Value} (T : Tx w K mg) : PySem.W.keepIn K (.ref (He.ga K "_law_accepted")) = true := T.f_law7_accepted.kp
theorem Tx.b_law7_accepted {w : World} {K : Fr'} {mg : Str → Option Value} (T : Tx w K mg) : Binds K (fdOf K (He.ga K "_law_accepted")) ["_law_claim_here", "_law_paper", "_law_due_here"] [] := FunD.bindsN (kws := d_law7_accepted.kws K) (T.f_law7_accepted) fun _ _ _ _ _ _ us hl => match us, hl with | [_, _, _], _ => rfl
theorem Tx.f_law7_due {w : World} {K : Fr'} {mg : Str → Option Value} (T : Tx w K mg) : FunD K "_law_due" "_law_due" (defArgs st_law7_due) (defBody st_law7_due) (defScope st_law7_due) (d_law7_due.dvs K) (d_law7_due.kws K) (He.ga K "_law_due") (fdOf K (He.ga K "_law_due")) := T.c.def_ 61 (d := d_law7_due)
theorem Tx.k_law7_due {w : World} {K : Fr'} {mg : Str → Option Value} (T : Tx w K mg) : PySem.W.keepIn K (.ref (He.ga K "_law_due")) = true := T.f_law7_due.kp
theorem Tx.b_law7_due {w : World} {K : Fr'} {mg : Str → Option Value} (T : Tx w K mg) : Binds K (fdOf K (He.ga K "_law_due")) ["_law_model_here", "_law_pairs_here", "_law_rest", "_law_paper"] [] := FunD.bindsN (kws := d_law7_due.kws K) (T.f_law7_due) fun _ _ _ _ _ _ us hl => match us, hl with | [_, _, _, _], _ => rfl
theorem Tx.f_law7_right {w : World} {K : Fr'} {mg : Str → Option Value} (T : Tx w K mg) : FunD K "_law_right" "_law_right" (defArgs st_law7_right) (defBody st_law7_right) (defScope st_law7_right) (d_law7_right.dvs K) (d_law7_right.kws K) (He.ga K "_law_right") (fdOf K (He.ga K "_law_right")) := T.c.def_ 62 (d := d_law7_right)
theorem Tx.k_law7_right {w : World} {K : Fr'} {mg : Str → Option Value} (T : Tx w K mg) : PySem.W.keepIn K (.ref (He.ga K "_law_right")) = true := T.f_law7_right.kp
theorem Tx.b_law7_right {w : World} {K : Fr'} {mg : Str → Option Value} (T : Tx w K mg) : Binds K (fdOf K (He.ga K "_law_right")) ["_law_purse_here"] [] := FunD.bindsN (kws := d_law7_right.kws K) (T.f_law7_right) fun _ _ _ _ _ _ us hl => match us, hl with | [_], _ => rfl
theorem Tx.f_law {w : World} {K : Fr'} {mg : Str → Option Value} (T : Tx w K mg) : FunD K "law" "law" (defArgs st_law) (defBody st_law) (defScope st_law) (d_law.dvs K) (d_law.kws K) (He.ga K "law") (fdOf K (He.ga K "law")) := T.c.def_ 63 (d := d_law)
theorem Tx.qLoop_init_5_yes {w : World} {K : Fr'} {mg : Str → Option Value} (T : Tx w K mg) : ∃ g, KBn K (fdOf K (He.ma K (He.ga K "Loop") "__init__")) ["self", "signs", "states", "rows", "turns", "yes"] 5 (["yes"] : List Str) g (fun vs zs => selG [(0, 0), (0, 1), (0, 2), (0, 3), (0, 4), (2, 0)] vs [(.ref (He.dflAt ("Loop", some "__init__") 0 K))] [] zs) := by
  have h := kbnD (ps := ["self", "signs", "states", "rows", "turns", "yes"]) (T.f_Loop_init) 5 (["yes"] : List Str) [(0, 0), (0, 1), (0, 2), (0, 3), (0, 4), (2, 0)] (by simp [d_Loop_init, He5.DefA.dvs]) (fun _ _ _ _ _ _ _ us its ws h1 h2 h3 => match us, its, ws, h1, h2, h3 with | [_, _, _, _, _], [_], [_], _, _, _ => ⟨_, rfl, rfl⟩)
  have e : d_Loop_init.dvs K = [(.ref (He.dflAt ("Loop", some "__init__") 0 K))] := by
    simp only [d_Loop_init, He5.DefA.dvs, List.map, He.Dv.v, lit_abc]
  rw [e] at h
  exact h
section
variable {P : Program} {w : World} {K : Fr'} {mg : Str → Option Value} {base : Heap}
theorem sc_is_integer : FnScope ["value"] ["value"] (defScope st_is_integer) := ⟨rfl, rfl, rfl, by decide +kernel, rfl, by decide +kernel, by decide +kernel⟩
theorem ok_is_integer (T : Tx w K mg) : FnOk P w K mg base CX0 1 (He.ga K "is_integer") (fdOf K (He.ga K "is_integer")) ["value"] (sp_is_integer K) := by
  have sc := sc_is_integer
  refine T.f_is_integer.ok sc (fun vs H Q E h => ?_) (fun cdv A outer s H vs Q E hr h => ⟨t_is_integer K, PSs.nox ?_, pure_is_integer h⟩)
  · obtain ⟨_, _, rfl, _⟩ := h
    rfl
  · exact (pss_one (ps_ret (pe_and (pe_callB call_isi (by rfl) T.n_isinstance (by decide +kernel) (pa_cons (pv 0) (pa_cons (pe_bltn (by rfl) T.n_int (by decide +kernel) rfl) pa_nil))) (pe_one (pe_not (pe_callB call_isi (by rfl) T.n_isinstance (by decide +kernel) (pa_cons (pv 0) (pa_cons (pe_bltn (by rfl) T.n_bool (by decide +kernel) rfl) pa_nil))))))))
theorem sc_is_within : FnScope ["value", "least", "most"] ["value", "least", "most"] (defScope st_is_within) := ⟨rfl, rfl, rfl, by decide +kernel, rfl, by decide +kernel, by decide +kernel⟩
theorem ok_is_within (T : Tx w K mg) : FnOk P w K mg base CX0 2 (He.ga K "is_within") (fdOf K (He.ga K "is_within")) ["value", "least", "most"] (sp_is_within K) := by
  have sc := sc_is_within
  refine T.f_is_within.ok sc (fun vs H Q E h => ?_) (fun cdv A outer s H vs Q E hr h => ⟨t_is_within K, PSs.nox ?_, pure_is_within h⟩)
  · obtain ⟨_, _, _, rfl, _⟩ := h
    rfl
  · exact (pss_one (ps_ret (pe_and (pe_call (ok_is_integer T) (hr.mono (by decide)) (by rfl) T.g_is_integer T.k_is_integer T.b_is_integer .nil pass0 (pa_cons (pv 0) pa_nil)) (pe_one (pe_chain op_le op_le (pv 1) (pv 0) (pv 2))))))
theorem sc_is_name : FnScope ["value", "mark"] ["value"] (defScope st_is_name) := ⟨rfl, rfl, rfl, by decide +kernel, rfl, by decide +kernel, by decide +kernel⟩
theorem ok_is_name (T : Tx w K mg) : FnOk P w K mg base CX0 1 (He.ga K "is_name") (fdOf K (He.ga K "is_name")) ["value"] (sp_is_name K) := by
  have sc := sc_is_name
  refine T.f_is_name.ok sc (fun vs H Q E h => ?_) (fun cdv A outer s H vs Q E hr h => ⟨t_is_name K, PSs.nox ?_, pure_is_name h⟩)
  · obtain ⟨_, rfl, _⟩ := h
    rfl
  · exact (pss_cons (ps_if (PW.pt (pw_or (pt_not (pt_val (pe_callB call_isi (by rfl) T.n_isinstance (by decide +kernel) (pa_cons (pv 0) (pa_cons (pe_bltn (by rfl) T.n_str (by decide +kernel) rfl) pa_nil))))) (pw_or1 (pt_not (pt_chain op_le op_le pe_int (pe_callB call_len (by rfl) T.n_len (by decide +kernel) (pa_cons (pv 0) pa_nil)) (pe_globI (by rfl) T.g_LONGEST_NAME)))))) (pss_one (ps_ret pe_bl)) pss_nil)
  (pss_one (ps_ret (pe_and (pe_cmpR op_in_sign (pe_ix ix_str (pv 0) pe_int (fun _ _ => rfl)) (pe_globS (by rfl) T.g_LETTERS) (by rfl)) (pe_one (pe_callB (cr_all rfl) (by rfl) T.n_all (by decide +kernel) (pa_cons (pe_lc (own := [("mark", 1)]) (g := gName 1) (by rfl) sc.nd (pi_str (pv 0)) (blkOk_by (own := [("mark", 1)]) (by kernel_rfl)) (fun _ _ _ _ _ => pg_name (i := 1) sc.nd rfl (by first | exact Or.inl rfl | exact Or.inr rfl)) (fun _ _ _ _ _ => pts_nil) (fun _ _ _ _ _ => (pe_cmpR op_in_sign (pv 1) (pe_globS (by rfl) T.g_MARKS) (by rfl)))) pa_nil)))))))
theorem sc_is_word : FnScope ["value", "signs", "sign"] ["value", "signs"] (defScope st_is_word) := ⟨rfl, rfl, rfl, by decide +kernel, rfl, by decide +kernel, by decide +kernel⟩
theorem ok_is_word (T : Tx w K mg) : FnOk P w K mg base CX0 1 (He.ga K "is_word") (fdOf K (He.ga K "is_word")) ["value", "signs"] (sp_is_word K) := by
  have sc := sc_is_word
  refine T.f_is_word.ok sc (fun vs H Q E h => ?_) (fun cdv A outer s H vs Q E hr h => ⟨t_is_word K, PSs.nox ?_, pure_is_word h⟩)
  · obtain ⟨_, _, rfl, _⟩ := h
    rfl
  · exact (pss_cons (ps_if (PW.pt (pw_or (pt_not (pt_val (pe_callB call_isi (by rfl) T.n_isinstance (by decide +kernel) (pa_cons (pv 0) (pa_cons (pe_bltn (by rfl) T.n_str (by decide +kernel) rfl) pa_nil))))) (pw_or1 (pt_not (pt_chain op_le op_le pe_int (pe_callB call_len (by rfl) T.n_len (by decide +kernel) (pa_cons (pv 0) pa_nil)) (pe_globI (by rfl) T.g_MOST_WORD)))))) (pss_one (ps_ret pe_bl)) pss_nil)
  (pss_one (ps_ret (pe_callB (cr_all rfl) (by rfl) T.n_all (by decide +kernel) (pa_cons (pe_lc (own := [("sign", 2)]) (g := gName 2) (by rfl) sc.nd (pi_str (pv 0)) (blkOk_by (own := [("sign", 2)]) (by kernel_rfl)) (fun _ _ _ _ _ => pg_name (i := 2) sc.nd rfl (by first | exact Or.inl rfl | exact Or.inr rfl)) (fun _ _ _ _ _ => pts_nil) (fun _ _ _ _ _ => (pe_cmpR op_in_sign (pv 2) (pv 1) (by rfl)))) pa_nil)))))
theorem sc_is_row : FnScope ["value", "length"] ["value", "length"] (defScope st_is_row) := ⟨rfl, rfl, rfl, by decide +kernel, rfl, by decide +kernel, by decide +kernel⟩
theorem ok_is_row (T : Tx w K mg) : FnOk P w K mg base CX0 1 (He.ga K "is_row") (fdOf K (He.ga K "is_row")) ["value", "length"] (sp_is_row K) := by
  have sc := sc_is_row
  refine T.f_is_row.ok sc (fun vs H Q E h => ?_) (fun cdv A outer s H vs Q E hr h => ⟨t_is_row K, PSs.nox ?_, pure_is_row h⟩)
  · obtain ⟨_, _, rfl, _⟩ := h
    rfl
  · exact (pss_one (ps_ret (pe_and (pe_callB call_isi (by rfl) T.n_isinstance (by decide +kernel) (pa_cons (pv 0) (pa_cons (pe_bltn (by rfl) T.n_tuple (by decide +kernel) rfl) pa_nil))) (pe_one (pe_cmpR op_eq (pe_callB call_len (by rfl) T.n_len (by decide +kernel) (pa_cons (pv 0) pa_nil)) (pv 1) (nomark _))))))
theorem sc_least_turning : FnScope ["text", "place"] ["text"] (defScope st_least_turning) := ⟨rfl, rfl, rfl, by decide +kernel, rfl, by decide +kernel, by decide +kernel⟩
theorem ok_least_turning (T : Tx w K mg) : FnOk P w K mg base CX0 1 (He.ga K "least_turning") (fdOf K (He.ga K "least_turning")) ["text"] (sp_least_turning K) := by
  have sc := sc_least_turning
  refine T.f_least_turning.ok sc (fun vs H Q E h => ?_) (fun cdv A outer s H vs Q E hr h => ⟨t_least_turning K, PSs.nox ?_, pure_least_turning h⟩)
  · obtain ⟨_, rfl, _⟩ := h
    rfl
  · exact (pss_one (ps_ret (pe_callB (cr_minS rfl hr.units) (by rfl) T.n_min (by decide +kernel) (pa_cons (pe_lc (own := [("place", 1)]) (g := gName 1) (by rfl) sc.nd (pi_range1 (by rfl) T.n_range (pa_cons (pe_callB call_len (by rfl) T.n_len (by decide +kernel) (pa_cons (pv 0) pa_nil)) pa_nil)) (blkOk_by (own := [("place", 1)]) (by kernel_rfl)) (fun _ _ _ _ _ => pg_name (i := 1) sc.nd rfl (by first | exact Or.inl rfl | exact Or.inr rfl)) (fun _ _ _ _ _ => pts_nil) (fun _ _ _ _ _ => (pe_op op_addS (pe_slice sl_str (pv 0) (po_some (pv 1)) po_none) (pe_slice sl_str (pv 0) po_none (po_some (pv 1)))))) pa_nil))))
theorem sc_Ring_init : FnScope ["self", "text"] ["self", "text"] (defScope st_Ring_init) := ⟨rfl, rfl, rfl, by decide +kernel, rfl, by decide +kernel, by decide +kernel⟩
theorem ok_Ring_init (T : Tx w K mg) : FnOk P w K mg base CX0 2 (He.ma K (He.ga K "Ring") "__init__") (fdOf K (He.ma K (He.ga K "Ring") "__init__")) ["self", "text"] (sp_Ring_init K) := by
  have sc := sc_Ring_init
  obtain ⟨ds_is_word, dv_is_word, db_is_word⟩ := T.bd1_is_word
  refine T.f_Ring_init.ok sc (fun vs H Q E h => ?_) (fun cdv A outer s H vs Q E hr h => ⟨t_Ring_init K, PSs.nox ?_, pure_Ring_init T.ringK h⟩)
  · obtain ⟨_, _, _, rfl, _⟩ := h
    rfl
  · exact (pss_cons (ps_if (pt_not (pt_val (pe_call (ok_is_word T) (hr.mono (by decide)) (by rfl) T.g_is_word T.k_is_word db_is_word dv_is_word pass0 (pa_cons (pv 1) pa_nil)))) (pss_one ps_never) pss_nil)
  (pss_one (ps_fld (pv 0) (pe_call (ok_least_turning T) (hr.mono (by decide)) (by rfl) T.g_least_turning T.k_least_turning T.b_least_turning .nil pass0 (pa_cons (pv 1) pa_nil)) rfl)))
theorem sc_Ring_text : FnScope ["self"] ["self"] (defScope st_Ring_text) := ⟨rfl, rfl, rfl, by decide +kernel, rfl, by decide +kernel, by decide +kernel⟩
theorem ok_Ring_text (T : Tx w K mg) : FnOk P w K mg base CX0 1 (He5.wf K (He.ga K "Ring") "property" "text") (fdOf K (He5.wf K (He.ga K "Ring") "property" "text")) ["self"] (sp_Ring_text K) := by
  have sc := sc_Ring_text
  refine T.f_Ring_text.ok sc (fun vs H Q E h => ?_) (fun cdv A outer s H vs Q E hr h => ⟨t_Ring_text K, PSs.nox ?_, pure_Ring_text T.ringK h⟩)
  · obtain ⟨_, _, rfl, _⟩ := h
    rfl
  · exact (pss_one (ps_ret (pe_fld (pv 0) rfl)))
theorem sc_Ring_eq : FnScope ["self", "other"] ["self", "other"] (defScope st_Ring_eq) := ⟨rfl, rfl, rfl, by decide +kernel, rfl, by decide +kernel, by decide +kernel⟩
theorem ok_Ring_eq (T : Tx w K mg) : FnOk P w K mg base CX0 1 (He.ma K (He.ga K "Ring") "__eq__") (fdOf K (He.ma K (He.ga K "Ring") "__eq__")) ["self", "other"] (sp_Ring_eq K) := by
  have sc := sc_Ring_eq
  refine T.f_Ring_eq.ok sc (fun vs H Q E h => ?_) (fun cdv A outer s H vs Q E hr h => ⟨t_Ring_eq K, PSs.nox ?_, pure_Ring_eq T.ringK h⟩)
  · obtain ⟨_, _, rfl, _⟩ := h
    rfl
  · exact (pss_one (ps_ret (pe_and (pe_callB call_isi (by rfl) T.n_isinstance (by decide +kernel) (pa_cons (pv 1) (pa_cons (pe_glob (by rfl) T.g_Ring (show RelV (.ref (He.ga K "Ring")) (.ref (He.ga K "Ring")) from rfl)) pa_nil))) (pe_one (pe_cmpR op_eq (pe_fld (pv 0) rfl) (pe_fld (pv 1) rfl) (nomark _))))))
theorem sc_check_signs : FnScope ["signs"] ["signs"] (defScope st_check_signs) := ⟨rfl, rfl, rfl, by decide +kernel, rfl, by decide +kernel, by decide +kernel⟩
theorem ok_check_signs (T : Tx w K mg) : FnOk P w K mg base CX0 2 (He.ga K "check_signs") (fdOf K (He.ga K "check_signs")) ["signs"] (sp_check_signs K) := by
  have sc := sc_check_signs
  obtain ⟨ds_is_word, dv_is_word, db_is_word⟩ := T.bd1_is_word
  refine T.f_check_signs.ok sc (fun vs H Q E h => ?_) (fun cdv A outer s H vs Q E hr h => ⟨t_check_signs K, PSs.nox ?_, pure_check_signs h⟩)
  · obtain ⟨_, rfl, _⟩ := h
    rfl
  · exact (pss_one (ps_if (PW.pt (pw_or (pt_not (pt_val (pe_call (ok_is_word T) (hr.mono (by decide)) (by rfl) T.g_is_word T.k_is_word db_is_word dv_is_word pass0 (pa_cons (pv 0) pa_nil)))) (pw_or (pt_cmpR op_gt (pe_callB call_len (by rfl) T.n_len (by decide +kernel) (pa_cons (pv 0) pa_nil)) (pe_globI (by rfl) T.g_MOST_SIGNS) (nomark _)) (pw_or1 (pt_cmpR op_lt (pe_lenSetS rfl (by rfl) T.n_len (by rfl) T.n_set (pv 0)) (pe_callB call_len (by rfl) T.n_len (by decide +kernel) (pa_cons (pv 0) pa_nil)) (nomark _)))))) (pss_one ps_never) pss_nil))
theorem sc_check_pairs : FnScope ["signs", "pairs", "index", "pair"] ["signs", "pairs"] (defScope st_check_pairs) := ⟨rfl, rfl, rfl, by decide +kernel, rfl, by decide +kernel, by decide +kernel⟩
theorem ok_check_pairs (T : Tx w K mg) : FnOk P w K mg base CX0 2 (He.ga K "check_pairs") (fdOf K (He.ga K "check_pairs")) ["signs", "pairs"] (sp_check_pairs K) := by
  have sc := sc_check_pairs
  refine T.f_check_pairs.ok sc (fun vs H Q E h => ?_) (fun cdv A outer s H vs Q E hr h => ⟨t_check_pairs K, PSs.nox ?_, pure_check_pairs h⟩)
  · obtain ⟨_, _, _, rfl, _⟩ := h
    rfl
  · exact (pss_cons (ps_if (pt_not (pt_val (pe_callB call_isi (by rfl) T.n_isinstance (by decide +kernel) (pa_cons (pv 1) (pa_cons (pe_bltn (by rfl) T.n_tuple (by decide +kernel) rfl) pa_nil))))) (pss_one ps_never) pss_nil)
  (pss_one (ps_for PassesOwn.never rfl (pi_enumT (by rfl) T.n_enumerate (pa_cons (pv 1) pa_nil)) (pg_tup rfl (pgs_cons (pg_name (i := 2) sc.nd rfl (by first | exact Or.inl rfl | exact Or.inr rfl)) (pgs_cons (pg_name (i := 3) sc.nd rfl (by first | exact Or.inl rfl | exact Or.inr rfl)) pgs_nil))) (pss_one (ps_if (PW.pt (pw_or (pt_not (pt_val (pe_call (ok_is_word T) (hr.mono (by decide)) (by rfl) T.g_is_word T.k_is_word T.bf_is_word .nil pass0 (pa_cons (pv 3) (pa_cons (pv 0) pa_nil))))) (pw_or (pt_cmpR op_ne (pe_callB call_len (by rfl) T.n_len (by decide +kernel) (pa_cons (pv 3) pa_nil)) pe_int (nomark _)) (pw_or1 (pt_cmpR op_in_seq (pv 3) (pe_slice sl_tupA (pv 1) po_none (po_some (pv 2))) (by rfl)))))) (pss_one ps_never) pss_nil)))))
theorem sc_Kind_init : FnScope ["self", "signs", "pairs", "one", "other"] ["self", "signs", "pairs"] (defScope st_Kind_init) := ⟨rfl, rfl, rfl, by decide +kernel, rfl, by decide +kernel, by decide +kernel⟩
theorem ok_Kind_init (T : Tx w K mg) : FnOk P w K mg base CX0 3 (He.ma K (He.ga K "Kind") "__init__") (fdOf K (He.ma K (He.ga K "Kind") "__init__")) ["self", "signs", "pairs"] (sp_Kind_init K) := by
  have sc := sc_Kind_init
  refine T.f_Kind_init.ok sc (fun vs H Q E h => ?_) (fun cdv A outer s H vs Q E hr h => ⟨t_Kind_init K, PSs.nox ?_, pure_Kind_init T.kindK h⟩)
  · obtain ⟨_, _, _, _, rfl, _⟩ := h
    rfl
  · exact (pss_cons (ps_expr (pe_call (ok_check_signs T) (hr.mono (by decide)) (by rfl) T.g_check_signs T.k_check_signs T.b_check_signs .nil pass0 (pa_cons (pv 1) pa_nil)))
  (pss_cons (ps_if (pt_cmpR op_notN (pv 2) pe_non (nomark _)) (pss_one (ps_expr (pe_call (ok_check_pairs T) (hr.mono (by decide)) (by rfl) T.g_check_pairs T.k_check_pairs T.b_check_pairs .nil pass0 (pa_cons (pv 1) (pa_cons (pv 2) pa_nil))))) pss_nil)
  (pss_cons (ps_fld (pv 0) (pe_join pe_str (pe_callB (cr_srt rfl) (by rfl) T.n_sorted (by decide +kernel) (pa_cons (pv 1) pa_nil))) rfl)
  (pss_cons (ps_if (pt_cmpR op_isN (pv 2) pe_non (nomark _)) (pss_one (ps_setLc2 (i := 2) (own := [("one", 3), ("other", 4)]) (vs1 := [4]) (g := gName 3) (g1 := gName 4) (by rfl) sc.nd rfl rfl (sw_true rfl rfl rfl (by decide +kernel)) (pi_str (pv 1)) (blkOk_by (own := [("one", 3), ("other", 4)]) (by kernel_rfl)) (by decide) (fun _ _ _ _ _ => pg_name (i := 3) sc.nd rfl (by first | exact Or.inl rfl | exact Or.inr rfl)) (fun _ _ _ _ _ => pts_nil) (fun _ _ _ _ _ => (pi_str (pv 1))) (fun _ _ _ _ _ => pg_name (i := 4) sc.nd rfl (by first | exact Or.inl rfl | exact Or.inr rfl)) (fun _ _ _ _ _ => pts_nil) (fun _ _ _ _ _ => (pe_op op_addS (pv 3) (pv 4))))) pss_nil)
  (pss_one (ps_fld (pv 0) (pe_callTy call_tuple_of (by rfl) T.n_tuple (by decide +kernel) (pa_cons (pe_callB (cr_srt rfl) (by rfl) T.n_sorted (by decide +kernel) (pa_cons (pv 2) pa_nil)) pa_nil)) rfl))))))
theorem sc_Kind_signs : FnScope ["self"] ["self"] (defScope st_Kind_signs) := ⟨rfl, rfl, rfl, by decide +kernel, rfl, by decide +kernel, by decide +kernel⟩
theorem ok_Kind_signs (T : Tx w K mg) : FnOk P w K mg base CX0 1 (He5.wf K (He.ga K "Kind") "property" "signs") (fdOf K (He5.wf K (He.ga K "Kind") "property" "signs")) ["self"] (sp_Kind_signs K) := by
  have sc := sc_Kind_signs
  refine T.f_Kind_signs.ok sc (fun vs H Q E h => ?_) (fun cdv A outer s H vs Q E hr h => ⟨t_Kind_signs K, PSs.nox ?_, pure_Kind_signs T.kindK h⟩)
  · obtain ⟨_, rfl, _⟩ := h
    rfl
  · exact (pss_one (ps_ret (pe_fld (pv 0) rfl)))
theorem sc_Kind_row : FnScope ["self"] ["self"] (defScope st_Kind_row) := ⟨rfl, rfl, rfl, by decide +kernel, rfl, by decide +kernel, by decide +kernel⟩
theorem ok_Kind_row (T : Tx w K mg) : FnOk P w K mg base CX0 1 (He5.wf K (He.ga K "Kind") "property" "row") (fdOf K (He5.wf K (He.ga K "Kind") "property" "row")) ["self"] (sp_Kind_row K) := by
  have sc := sc_Kind_row
  refine T.f_Kind_row.ok sc (fun vs H Q E h => ?_) (fun cdv A outer s H vs Q E hr h => ⟨t_Kind_row K, PSs.nox ?_, pure_Kind_row T.kindK h⟩)
  · obtain ⟨_, rfl, _⟩ := h
    rfl
  · exact (pss_one (ps_ret (pe_tup (pa_cons (pe_fld (pv 0) rfl) (pa_cons (pe_fld (pv 0) rfl) pa_nil)))))
theorem sc_Kind_made : FnScope ["cls", "row", "kind"] ["cls", "row"] (defScope st_Kind_made) := ⟨rfl, rfl, rfl, by decide +kernel, rfl, by decide +kernel, by decide +kernel⟩
theorem ok_Kind_made (T : Tx w K mg) : FnOk P w K mg base CX0 5 (He5.wf K (He.ga K "Kind") "classmethod" "made") (fdOf K (He5.wf K (He.ga K "Kind") "classmethod" "made")) ["cls", "row"] (sp_Kind_made K) := by
  have sc := sc_Kind_made
  refine T.f_Kind_made.ok sc (fun vs H Q E h => ?_) (fun cdv A outer s H vs Q E hr h => ⟨t_Kind_made K, PSs.nox ?_, pure_Kind_made T.kindK h⟩)
  · obtain ⟨_, rfl, _⟩ := h
    rfl
  · exact (pss_cons (ps_if (pt_not (pt_val (pe_call (ok_is_row T) (hr.mono (by decide)) (by rfl) T.g_is_row T.k_is_row T.b_is_row .nil pass0 (pa_cons (pv 1) (pa_cons pe_int pa_nil))))) (pss_one ps_never) pss_nil)
  (pss_cons (ps_try_thru0 (pss_one (ps_set (i := 2) sc.nd rfl (by first | exact Or.inl rfl | exact Or.inr rfl) (pe_makeL (i := 0) T.mk_Kind (ok_Kind_init T) (hr.mono (by decide)) rfl (by first | exact Or.inl rfl | exact Or.inr (Or.inl rfl)) T.bf_Kind_init .nil pass0 (pa_cons (pe_ix ix_tup (pv 1) pe_int (fun _ _ => rfl)) (pa_cons (pe_ix ix_tup (pv 1) pe_int (fun _ _ => rfl)) pa_nil))))))
  (pss_cons (ps_if (pt_cmpR (op_neD hr.units) (pe_prop (pv 2) T.c_Kind T.p_Kind_row (ok_Kind_row T) (hr.mono (by decide)) T.b_Kind_row .nil pass0 rfl) (pv 1) (nomark _)) (pss_one ps_never) pss_nil)
  (pss_one (ps_ret (pv 2))))))
theorem sc_Kind_closes : FnScope ["self", "text", "at"] ["self", "text"] (defScope st_Kind_closes) := ⟨rfl, rfl, rfl, by decide +kernel, rfl, by decide +kernel, by decide +kernel⟩
theorem ok_Kind_closes (T : Tx w K mg) : FnOk P w K mg base CX0 1 (He.ma K (He.ga K "Kind") "closes") (fdOf K (He.ma K (He.ga K "Kind") "closes")) ["self", "text"] (sp_Kind_closes K) := by
  have sc := sc_Kind_closes
  refine T.f_Kind_closes.ok sc (fun vs H Q E h => ?_) (fun cdv A outer s H vs Q E hr h => ⟨t_Kind_closes K, PSs.nox ?_, pure_Kind_closes T.kindK h⟩)
  · obtain ⟨_, _, rfl, _⟩ := h
    rfl
  · exact (pss_one (ps_ret (pe_cmpR (op_eqD hr.units) (pe_lc (own := [("at", 2)]) (g := gName 2) (by rfl) sc.nd (pi_range1 (by rfl) T.n_range (pa_cons (pe_callB call_len (by rfl) T.n_len (by decide +kernel) (pa_cons (pv 1) pa_nil)) pa_nil)) (blkOk_by (own := [("at", 2)]) (by kernel_rfl)) (fun _ _ _ _ _ => pg_name (i := 2) sc.nd rfl (by first | exact Or.inl rfl | exact Or.inr rfl)) (fun _ _ _ _ _ => (pts_one (pt_cmpR op_notIn_seq (pe_op op_addS (pe_ix ix_str (pv 1) (pe_op op_sub (pv 2) pe_int) (fun _ _ => rfl)) (pe_ix ix_str (pv 1) (pv 2) (fun _ _ => rfl))) (pe_fld (pv 0) rfl) (by rfl)))) (fun _ _ _ _ _ => (pv 2))) (pe_lst pa_nil) (nomark _))))
theorem sc_Kind_contains : FnScope ["self", "value"] ["self", "value"] (defScope st_Kind_contains) := ⟨rfl, rfl, rfl, by decide +kernel, rfl, by decide +kernel, by decide +kernel⟩
theorem ok_Kind_contains (T : Tx w K mg) : FnOk P w K mg base CX0 3 (He.ma K (He.ga K "Kind") "__contains__") (fdOf K (He.ma K (He.ga K "Kind") "__contains__")) ["self", "value"] (sp_Kind_contains K) := by
  have sc := sc_Kind_contains
  refine T.f_Kind_contains.ok sc (fun vs H Q E h => ?_) (fun cdv A outer s H vs Q E hr h => ⟨t_Kind_contains K, PSs.nox ?_, pure_Kind_contains T.ringK T.kindK h⟩)
  · obtain ⟨_, _, rfl, _⟩ := h
    rfl
  · exact (pss_one (ps_ret (pe_and (pe_callB call_isi (by rfl) T.n_isinstance (by decide +kernel) (pa_cons (pv 1) (pa_cons (pe_glob (by rfl) T.g_Ring (show RelV (.ref (He.ga K "Ring")) (.ref (He.ga K "Ring")) from rfl)) pa_nil))) (pe_one (pe_meth (pv 0) T.c_Kind T.m_Kind_closes (ok_Kind_closes T) (hr.mono (by decide)) T.b_Kind_closes .nil pass0 (pa_cons (pe_prop (pv 1) T.c_Ring T.p_Ring_text (ok_Ring_text T) (hr.mono (by decide)) T.b_Ring_text .nil pass0 rfl) pa_nil))))))
theorem sc_place_of : FnScope ["at", "size", "begin"] ["at", "size", "begin"] (defScope st_place_of) := ⟨rfl, rfl, rfl, by decide +kernel, rfl, by decide +kernel, by decide +kernel⟩
theorem ok_place_of (T : Tx w K mg) : FnOk P w K mg base CX0 1 (He.ga K "place_of") (fdOf K (He.ga K "place_of")) ["at", "size", "begin"] (sp_place_of K) := by
  have sc := sc_place_of
  refine T.f_place_of.ok sc (fun vs H Q E h => ?_) (fun cdv A outer s H vs Q E hr h => ⟨t_place_of K, PSs.nox ?_, pure_place_of h⟩)
  · obtain ⟨_, _, _, rfl, _⟩ := h
    rfl
  · exact (pss_one (ps_ret (pe_ifExp (pt_cmpR op_lt (pv 0) (pv 1) (nomark _)) (pv 0) (pe_op op_add (pv 2) (pe_op op_mod (pe_op op_sub (pv 0) (pv 2)) (pe_op op_sub (pv 1) (pv 2)))))))
theorem sc_is_step : FnScope ["row", "signs", "states"] ["row", "signs", "states"] (defScope st_is_step) := ⟨rfl, rfl, rfl, by decide +kernel, rfl, by decide +kernel, by decide +kernel⟩
theorem ok_is_step (T : Tx w K mg) : FnOk P w K mg base CX0 2 (He.ga K "is_step") (fdOf K (He.ga K "is_step")) ["row", "signs", "states"] (sp_is_step K) := by
  have sc := sc_is_step
  refine T.f_is_step.ok sc (fun vs H Q E h => ?_) (fun cdv A outer s H vs Q E hr h => ⟨t_is_step K, PSs.nox ?_, pure_is_step h⟩)
  · obtain ⟨_, _, _, rfl, _⟩ := h
    rfl
  · exact (pss_cons (ps_if (PW.pt (pw_or (pt_not (pt_val (pe_call (ok_is_row T) (hr.mono (by decide)) (by rfl) T.g_is_row T.k_is_row T.b_is_row .nil pass0 (pa_cons (pv 0) (pa_cons pe_int pa_nil))))) (pw_or (pt_not (pt_val (pe_call (ok_is_word T) (hr.mono (by decide)) (by rfl) T.g_is_word T.k_is_word T.bf_is_word .nil pass0 (pa_cons (pe_ix ix_tup (pv 0) pe_int (fun _ _ => rfl)) (pa_cons (pv 1) pa_nil))))) (pw_or1 (pt_cmpR op_ne (pe_callB call_len (by rfl) T.n_len (by decide +kernel) (pa_cons (pe_ix ix_tup (pv 0) pe_int (fun _ _ => rfl)) pa_nil)) pe_int (nomark _)))))) (pss_one (ps_ret pe_bl)) pss_nil)
  (pss_one (ps_ret (pe_and (pe_cmpR op_in_seq (pe_ix ix_tup (pv 0) pe_int (fun _ _ => rfl)) (pv 2) (by rfl)) (pe_and (pe_cmpR op_in_seq (pe_ix ix_tup (pv 0) pe_int (fun _ _ => rfl)) (pv 2) (by rfl)) (pe_one (pe_call (ok_is_integer T) (hr.mono (by decide)) (by rfl) T.g_is_integer T.k_is_integer T.b_is_integer .nil pass0 (pa_cons (pe_ix ix_tup (pv 0) pe_int (fun _ _ => rfl)) pa_nil))))))))
theorem sc_is_turn : FnScope ["turn", "states"] ["turn", "states"] (defScope st_is_turn) := ⟨rfl, rfl, rfl, by decide +kernel, rfl, by decide +kernel, by decide +kernel⟩
theorem ok_is_turn (T : Tx w K mg) : FnOk P w K mg base CX0 2 (He.ga K "is_turn") (fdOf K (He.ga K "is_turn")) ["turn", "states"] (sp_is_turn K) := by
  have sc := sc_is_turn
  refine T.f_is_turn.ok sc (fun vs H Q E h => ?_) (fun cdv A outer s H vs Q E hr h => ⟨t_is_turn K, PSs.nox ?_, pure_is_turn h⟩)
  · obtain ⟨_, _, rfl, _⟩ := h
    rfl
  · exact (pss_one (ps_ret (pe_and (pe_call (ok_is_row T) (hr.mono (by decide)) (by rfl) T.g_is_row T.k_is_row T.b_is_row .nil pass0 (pa_cons (pv 0) (pa_cons pe_int pa_nil))) (pe_and (pe_cmpR op_in_seq (pe_ix ix_tup (pv 0) pe_int (fun _ _ => rfl)) (pv 1) (by rfl)) (pe_and (pe_cmpR op_in_seq (pe_ix ix_tup (pv 0) pe_int (fun _ _ => rfl)) (pv 1) (by rfl)) (pe_one (pe_call (ok_is_integer T) (hr.mono (by decide)) (by rfl) T.g_is_integer T.k_is_integer T.b_is_integer .nil pass0 (pa_cons (pe_ix ix_tup (pv 0) pe_int (fun _ _ => rfl)) pa_nil))))))))
theorem sc_check_states : FnScope ["states", "index", "state"] ["states"] (defScope st_check_states) := ⟨rfl, rfl, rfl, by decide +kernel, rfl, by decide +kernel, by decide +kernel⟩
theorem ok_check_states (T : Tx w K mg) : FnOk P w K mg base CX0 2 (He.ga K "check_states") (fdOf K (He.ga K "check_states")) ["states"] (sp_check_states K) := by
  have sc := sc_check_states
  refine T.f_check_states.ok sc (fun vs H Q E h => ?_) (fun cdv A outer s H vs Q E hr h => ⟨t_check_states K, PSs.nox ?_, pure_check_states h⟩)
  · obtain ⟨_, rfl, _⟩ := h
    rfl
  · exact (pss_cons (ps_if (PW.pt (pw_or (pt_not (pt_val (pe_callB call_isi (by rfl) T.n_isinstance (by decide +kernel) (pa_cons (pv 0) (pa_cons (pe_bltn (by rfl) T.n_tuple (by decide +kernel) rfl) pa_nil))))) (pw_or1 (pt_cmpR op_eq (pe_callB call_len (by rfl) T.n_len (by decide +kernel) (pa_cons (pv 0) pa_nil)) pe_int (nomark _))))) (pss_one ps_never) pss_nil)
  (pss_one (ps_for PassesOwn.never rfl (pi_enumT (by rfl) T.n_enumerate (pa_cons (pv 0) pa_nil)) (pg_tup rfl (pgs_cons (pg_name (i := 1) sc.nd rfl (by first | exact Or.inl rfl | exact Or.inr rfl)) (pgs_cons (pg_name (i := 2) sc.nd rfl (by first | exact Or.inl rfl | exact Or.inr rfl)) pgs_nil))) (pss_one (ps_if (PW.pt (pw_or (pt_cmpR op_eq (pv 1) (pe_globI (by rfl) T.g_MOST_STATES) (nomark _)) (pw_or (pt_not (pt_val (pe_call (ok_is_name T) (hr.mono (by decide)) (by rfl) T.g_is_name T.k_is_name T.b_is_name .nil pass0 (pa_cons (pv 2) pa_nil)))) (pw_or1 (pt_cmpR op_in_seq (pv 2) (pe_slice sl_tupA (pv 0) po_none (po_some (pv 1))) (by rfl)))))) (pss_one ps_never) pss_nil)))))
theorem sc_check_rows : FnScope ["signs", "states", "rows", "seen", "index", "row"] ["signs", "states", "rows"] (defScope st_check_rows) := ⟨rfl, rfl, rfl, by decide +kernel, rfl, by decide +kernel, by decide +kernel⟩
theorem ok_check_rows (T : Tx w K mg) : FnOk P w K mg base CX0 3 (He.ga K "check_rows") (fdOf K (He.ga K "check_rows")) ["signs", "states", "rows"] (sp_check_rows K) := by
  have sc := sc_check_rows
  refine T.f_check_rows.ok sc (fun vs H Q E h => ?_) (fun cdv A outer s H vs Q E hr h => ⟨t_check_rows K, PSs.nox ?_, pure_check_rows h⟩)
  · obtain ⟨_, _, _, rfl, _⟩ := h
    rfl
  · exact (pss_cons (ps_if (pt_not (pt_val (pe_callB call_isi (by rfl) T.n_isinstance (by decide +kernel) (pa_cons (pv 2) (pa_cons (pe_bltn (by rfl) T.n_tuple (by decide +kernel) rfl) pa_nil))))) (pss_one ps_never) pss_nil)
  (pss_cons (ps_set (i := 3) sc.nd rfl (by first | exact Or.inl rfl | exact Or.inr rfl) (pe_lst pa_nil))
  (pss_cons (ps_for PassesOwn.never rfl (pi_enumT (by rfl) T.n_enumerate (pa_cons (pv 2) pa_nil)) (pg_tup rfl (pgs_cons (pg_name (i := 4) sc.nd rfl (by first | exact Or.inl rfl | exact Or.inr rfl)) (pgs_cons (pg_name (i := 5) sc.nd rfl (by first | exact Or.inl rfl | exact Or.inr rfl)) pgs_nil))) (pss_cons (ps_if (PW.pt (pw_or (pt_not (pt_val (pe_call (ok_is_step T) (hr.mono (by decide)) (by rfl) T.g_is_step T.k_is_step T.b_is_step .nil pass0 (pa_cons (pv 5) (pa_cons (pv 0) (pa_cons (pv 1) pa_nil)))))) (pw_or1 (pt_cmpR (op_inD hr.u65) (pe_slice sl_tupA (pv 5) po_none (po_some pe_int)) (pv 3) (by rfl))))) (pss_one ps_never) pss_nil)
  (pss_one (ps_expr (pe_bm PySem.F.plainAttrs_list PySem.F.slot_list_append PySem.F.type_list_append mt_append (pv 3) (pa_cons (pe_slice sl_tupA (pv 5) po_none (po_some pe_int)) pa_nil))))))
  (pss_one (ps_if (pt_cmpR op_lt (pe_callB call_len (by rfl) T.n_len (by decide +kernel) (pa_cons (pv 2) pa_nil)) (pe_op op_mul (pe_callB call_len (by rfl) T.n_len (by decide +kernel) (pa_cons (pv 0) pa_nil)) (pe_callB call_len (by rfl) T.n_len (by decide +kernel) (pa_cons (pv 1) pa_nil))) (nomark _)) (pss_one ps_never) pss_nil)))))
theorem sc_check_turns : FnScope ["states", "turns", "seen", "index", "turn"] ["states", "turns"] (defScope st_check_turns) := ⟨rfl, rfl, rfl, by decide +kernel, rfl, by decide +kernel, by decide +kernel⟩
theorem ok_check_turns (T : Tx w K mg) : FnOk P w K mg base CX0 3 (He.ga K "check_turns") (fdOf K (He.ga K "check_turns")) ["states", "turns"] (sp_check_turns K) := by
  have sc := sc_check_turns
  refine T.f_check_turns.ok sc (fun vs H Q E h => ?_) (fun cdv A outer s H vs Q E hr h => ⟨t_check_turns K, PSs.nox ?_, pure_check_turns h⟩)
  · obtain ⟨_, _, rfl, _⟩ := h
    rfl
  · exact (pss_cons (ps_if (pt_not (pt_val (pe_callB call_isi (by rfl) T.n_isinstance (by decide +kernel) (pa_cons (pv 1) (pa_cons (pe_bltn (by rfl) T.n_tuple (by decide +kernel) rfl) pa_nil))))) (pss_one ps_never) pss_nil)
  (pss_cons (ps_set (i := 2) sc.nd rfl (by first | exact Or.inl rfl | exact Or.inr rfl) (pe_lst pa_nil))
  (pss_one (ps_for PassesOwn.never rfl (pi_enumT (by rfl) T.n_enumerate (pa_cons (pv 1) pa_nil)) (pg_tup rfl (pgs_cons (pg_name (i := 3) sc.nd rfl (by first | exact Or.inl rfl | exact Or.inr rfl)) (pgs_cons (pg_name (i := 4) sc.nd rfl (by first | exact Or.inl rfl | exact Or.inr rfl)) pgs_nil))) (pss_cons (ps_if (PW.pt (pw_or (pt_not (pt_val (pe_call (ok_is_turn T) (hr.mono (by decide)) (by rfl) T.g_is_turn T.k_is_turn T.b_is_turn .nil pass0 (pa_cons (pv 4) (pa_cons (pv 0) pa_nil))))) (pw_or1 (pt_cmpR op_in_seq (pe_ix ix_tup (pv 4) pe_int (fun _ _ => rfl)) (pv 2) (by rfl))))) (pss_one ps_never) pss_nil)
  (pss_one (ps_expr (pe_bm PySem.F.plainAttrs_list PySem.F.slot_list_append PySem.F.type_list_append mt_append (pv 2) (pa_cons (pe_ix ix_tup (pv 4) pe_int (fun _ _ => rfl)) pa_nil)))))))))
theorem sc_check_yes : FnScope ["states", "yes", "index", "state"] ["states", "yes"] (defScope st_check_yes) := ⟨rfl, rfl, rfl, by decide +kernel, rfl, by decide +kernel, by decide +kernel⟩
theorem ok_check_yes (T : Tx w K mg) : FnOk P w K mg base CX0 1 (He.ga K "check_yes") (fdOf K (He.ga K "check_yes")) ["states", "yes"] (sp_check_yes K) := by
  have sc := sc_check_yes
  refine T.f_check_yes.ok sc (fun vs H Q E h => ?_) (fun cdv A outer s H vs Q E hr h => ⟨t_check_yes K, PSs.nox ?_, pure_check_yes h⟩)
  · obtain ⟨_, _, rfl, _⟩ := h
    rfl
  · exact (pss_cons (ps_if (pt_not (pt_val (pe_callB call_isi (by rfl) T.n_isinstance (by decide +kernel) (pa_cons (pv 1) (pa_cons (pe_bltn (by rfl) T.n_tuple (by decide +kernel) rfl) pa_nil))))) (pss_one ps_never) pss_nil)
  (pss_one (ps_for PassesOwn.never rfl (pi_enumT (by rfl) T.n_enumerate (pa_cons (pv 1) pa_nil)) (pg_tup rfl (pgs_cons (pg_name (i := 2) sc.nd rfl (by first | exact Or.inl rfl | exact Or.inr rfl)) (pgs_cons (pg_name (i := 3) sc.nd rfl (by first | exact Or.inl rfl | exact Or.inr rfl)) pgs_nil))) (pss_one (ps_if (PW.pt (pw_or (pt_cmpR op_notIn_seq (pv 3) (pv 0) (by rfl)) (pw_or1 (pt_cmpR op_in_seq (pv 3) (pe_slice sl_tupA (pv 1) po_none (po_some (pv 2))) (by rfl))))) (pss_one ps_never) pss_nil)))))
theorem sc_Loop_init : FnScope ["self", "signs", "states", "rows", "turns", "yes", "state", "sign", "later", "amount", "given"] ["self", "signs", "states", "rows", "turns", "yes"] (defScope st_Loop_init) := ⟨rfl, rfl, rfl, by decide +kernel, rfl, by decide +kernel, by decide +kernel⟩
theorem ok_Loop_init (T : Tx w K mg) : FnOk P w K mg base CX0 4 (He.ma K (He.ga K "Loop") "__init__") (fdOf K (He.ma K (He.ga K "Loop") "__init__")) ["self", "signs", "states", "rows", "turns", "yes"] (sp_Loop_init K) := by
  have sc := sc_Loop_init
  refine T.f_Loop_init.ok sc (fun vs H Q E h => ?_) (fun cdv A outer s H vs Q E hr h => ⟨t_Loop_init K, PSs.nox ?_, pure_Loop_init T.loopK h⟩)
  · obtain ⟨_, _, _, _, _, _, _, rfl, _⟩ := h
    rfl
  · exact (pss_cons (ps_expr (pe_call (ok_check_signs T) (hr.mono (by decide)) (by rfl) T.g_check_signs T.k_check_signs T.b_check_signs .nil pass0 (pa_cons (pv 1) pa_nil)))
  (pss_cons (ps_expr (pe_call (ok_check_states T) (hr.mono (by decide)) (by rfl) T.g_check_states T.k_check_states T.b_check_states .nil pass0 (pa_cons (pv 2) pa_nil)))
  (pss_cons (ps_expr (pe_call (ok_check_rows T) (hr.mono (by decide)) (by rfl) T.g_check_rows T.k_check_rows T.b_check_rows .nil pass0 (pa_cons (pv 1) (pa_cons (pv 2) (pa_cons (pv 3) pa_nil)))))
  (pss_cons (ps_expr (pe_call (ok_check_turns T) (hr.mono (by decide)) (by rfl) T.g_check_turns T.k_check_turns T.b_check_turns .nil pass0 (pa_cons (pv 2) (pa_cons (pv 4) pa_nil))))
  (pss_cons (ps_expr (pe_call (ok_check_yes T) (hr.mono (by decide)) (by rfl) T.g_check_yes T.k_check_yes T.b_check_yes .nil pass0 (pa_cons (pv 2) (pa_cons (pv 5) pa_nil))))
  (pss_cons (ps_fld (pv 0) (pe_join pe_str (pe_callB (cr_srt rfl) (by rfl) T.n_sorted (by decide +kernel) (pa_cons (pv 1) pa_nil))) rfl)
  (pss_cons (ps_fld (pv 0) (pv 2) rfl)
  (pss_cons (ps_fld (pv 0) (pe_dcT (own := [("state", 6), ("sign", 7), ("later", 8), ("amount", 9)]) (by rfl) hr.u1 sc.nd (pi_tup (pv 3)) (blkOk_by (own := [("state", 6), ("sign", 7), ("later", 8), ("amount", 9)]) (by kernel_rfl)) (fun _ _ _ _ _ => (pg_tup rfl (pgs_cons (pg_name (i := 6) sc.nd rfl (by first | exact Or.inl rfl | exact Or.inr rfl)) (pgs_cons (pg_name (i := 7) sc.nd rfl (by first | exact Or.inl rfl | exact Or.inr rfl)) (pgs_cons (pg_name (i := 8) sc.nd rfl (by first | exact Or.inl rfl | exact Or.inr rfl)) (pgs_cons (pg_name (i := 9) sc.nd rfl (by first | exact Or.inl rfl | exact Or.inr rfl)) pgs_nil)))))) (fun _ _ _ _ _ => pts_nil) (fun _ _ _ _ _ => (pe_tup (pa_cons (pv 6) (pa_cons (pv 7) pa_nil)))) (fun _ _ _ _ _ => (pe_tup (pa_cons (pv 8) (pa_cons (pv 9) pa_nil))))) rfl)
  (pss_cons (ps_set (i := 10) sc.nd rfl (by first | exact Or.inl rfl | exact Or.inr rfl) (pe_dc (own := [("state", 6), ("later", 8), ("amount", 9)]) (by rfl) sc.nd (pi_tup (pv 4)) (blkOk_by (own := [("state", 6), ("later", 8), ("amount", 9)]) (by kernel_rfl)) (fun _ _ _ _ _ => (pg_tup rfl (pgs_cons (pg_name (i := 6) sc.nd rfl (by first | exact Or.inl rfl | exact Or.inr rfl)) (pgs_cons (pg_name (i := 8) sc.nd rfl (by first | exact Or.inl rfl | exact Or.inr rfl)) (pgs_cons (pg_name (i := 9) sc.nd rfl (by first | exact Or.inl rfl | exact Or.inr rfl)) pgs_nil))))) (fun _ _ _ _ _ => pts_nil) (fun _ _ _ _ _ => (pv 6)) (fun _ _ _ _ _ => (pe_tup (pa_cons (pv 8) (pa_cons (pv 9) pa_nil))))))
  (pss_cons (ps_fld (pv 0) (pe_dc (own := [("state", 6)]) (by rfl) sc.nd (pi_tup (pv 2)) (blkOk_by (own := [("state", 6)]) (by kernel_rfl)) (fun _ _ _ _ _ => pg_name (i := 6) sc.nd rfl (by first | exact Or.inl rfl | exact Or.inr rfl)) (fun _ _ _ _ _ => pts_nil) (fun _ _ _ _ _ => (pv 6)) (fun _ _ _ _ _ => (pe_dget2 hr.u1 (pv 10) (pv 6) (pe_tup (pa_cons (pv 6) (pa_cons pe_int pa_nil))) ⟨rfl, rfl, rfl, rfl⟩))) rfl)
  (pss_one (ps_fld (pv 0) (pe_callTy call_tuple_of (by rfl) T.n_tuple (by decide +kernel) (pa_cons (pe_lc (own := [("state", 6)]) (g := gName 6) (by rfl) sc.nd (pi_tup (pv 2)) (blkOk_by (own := [("state", 6)]) (by kernel_rfl)) (fun _ _ _ _ _ => pg_name (i := 6) sc.nd rfl (by first | exact Or.inl rfl | exact Or.inr rfl)) (fun _ _ _ _ _ => (pts_one (pt_cmpR op_in_seq (pv 6) (pv 5) (by rfl)))) (fun _ _ _ _ _ => (pv 6))) pa_nil)) rfl))))))))))))
theorem sc_Loop_signs : FnScope ["self"] ["self"] (defScope st_Loop_signs) := ⟨rfl, rfl, rfl, by decide +kernel, rfl, by decide +kernel, by decide +kernel⟩
theorem ok_Loop_signs (T : Tx w K mg) : FnOk P w K mg base CX0 1 (He5.wf K (He.ga K "Loop") "property" "signs") (fdOf K (He5.wf K (He.ga K "Loop") "property" "signs")) ["self"] (sp_Loop_signs K) := by
  have sc := sc_Loop_signs
  refine T.f_Loop_signs.ok sc (fun vs H Q E h => ?_) (fun cdv A outer s H vs Q E hr h => ⟨t_Loop_signs K, PSs.nox ?_, pure_Loop_signs T.loopK h⟩)
  · obtain ⟨_, rfl, _⟩ := h
    rfl
  · exact (pss_one (ps_ret (pe_fld (pv 0) rfl)))
theorem sc_Loop_rows : FnScope ["self", "state", "sign"] ["self"] (defScope st_Loop_rows) := ⟨rfl, rfl, rfl, by decide +kernel, rfl, by decide +kernel, by decide +kernel⟩
theorem ok_Loop_rows (T : Tx w K mg) : FnOk P w K mg base CX0 1 (He5.wf K (He.ga K "Loop") "property" "rows") (fdOf K (He5.wf K (He.ga K "Loop") "property" "rows")) ["self"] (sp_Loop_rows K) := by
  have sc := sc_Loop_rows
  refine T.f_Loop_rows.ok sc (fun vs H Q E h => ?_) (fun cdv A outer s H vs Q E hr h => ⟨t_Loop_rows K, PSs.nox ?_, pure_Loop_rows T.loopK h⟩)
  · obtain ⟨_, rfl, _⟩ := h
    rfl
  · exact (pss_one (ps_ret (pe_callTy call_tuple_of (by rfl) T.n_tuple (by decide +kernel) (pa_cons (pe_lc2 (own := [("state", 1), ("sign", 2)]) (vs1 := [2]) (g := gName 1) (g1 := gName 2) (by rfl) sc.nd (pi_tup (pe_fld (pv 0) rfl)) (blkOk_by (own := [("state", 1), ("sign", 2)]) (by kernel_rfl)) (by decide) (fun _ _ _ _ _ => pg_name (i := 1) sc.nd rfl (by first | exact Or.inl rfl | exact Or.inr rfl)) (fun _ _ _ _ _ => pts_nil) (fun _ _ _ _ _ => (pi_str (pe_fld (pv 0) rfl))) (fun _ _ _ _ _ => pg_name (i := 2) sc.nd rfl (by first | exact Or.inl rfl | exact Or.inr rfl)) (fun _ _ _ _ _ => pts_nil) (fun _ _ _ _ _ => (pe_op op_catA (pe_tup (pa_cons (pv 1) (pa_cons (pv 2) pa_nil))) (pe_dget hr.u1 (pe_fld (pv 0) rfl) (pe_tup (pa_cons (pv 1) (pa_cons (pv 2) pa_nil))) (fun _ _ => rfl))))) pa_nil))))
theorem sc_Loop_turns : FnScope ["self", "state"] ["self"] (defScope st_Loop_turns) := ⟨rfl, rfl, rfl, by decide +kernel, rfl, by decide +kernel, by decide +kernel⟩
theorem ok_Loop_turns (T : Tx w K mg) : FnOk P w K mg base CX0 1 (He5.wf K (He.ga K "Loop") "property" "turns") (fdOf K (He5.wf K (He.ga K "Loop") "property" "turns")) ["self"] (sp_Loop_turns K) := by
  have sc := sc_Loop_turns
  refine T.f_Loop_turns.ok sc (fun vs H Q E h => ?_) (fun cdv A outer s H vs Q E hr h => ⟨t_Loop_turns K, PSs.nox ?_, pure_Loop_turns T.loopK h⟩)
  · obtain ⟨_, rfl, _⟩ := h
    rfl
  · exact (pss_one (ps_ret (pe_callTy call_tuple_of (by rfl) T.n_tuple (by decide +kernel) (pa_cons (pe_lc (own := [("state", 1)]) (g := gName 1) (by rfl) sc.nd (pi_tup (pe_fld (pv 0) rfl)) (blkOk_by (own := [("state", 1)]) (by kernel_rfl)) (fun _ _ _ _ _ => pg_name (i := 1) sc.nd rfl (by first | exact Or.inl rfl | exact Or.inr rfl)) (fun _ _ _ _ _ => pts_nil) (fun _ _ _ _ _ => (pe_op op_catA (pe_tup (pa_cons (pv 1) pa_nil)) (pe_dget hr.u1 (pe_fld (pv 0) rfl) (pv 1) (fun _ _ => rfl))))) pa_nil))))
theorem sc_Loop_row : FnScope ["self"] ["self"] (defScope st_Loop_row) := ⟨rfl, rfl, rfl, by decide +kernel, rfl, by decide +kernel, by decide +kernel⟩
theorem ok_Loop_row (T : Tx w K mg) : FnOk P w K mg base CX0 3 (He5.wf K (He.ga K "Loop") "property" "row") (fdOf K (He5.wf K (He.ga K "Loop") "property" "row")) ["self"] (sp_Loop_row K) := by
  have sc := sc_Loop_row
  refine T.f_Loop_row.ok sc (fun vs H Q E h => ?_) (fun cdv A outer s H vs Q E hr h => ⟨t_Loop_row K, PSs.nox ?_, pure_Loop_row T.loopK h⟩)
  · obtain ⟨_, rfl, _⟩ := h
    rfl
  · exact (pss_one (ps_ret (pe_tup (pa_cons (pe_fld (pv 0) rfl) (pa_cons (pe_fld (pv 0) rfl) (pa_cons (pe_prop (pv 0) T.c_Loop T.p_Loop_rows (ok_Loop_rows T) (hr.mono (by decide)) T.b_Loop_rows .nil pass0 rfl) (pa_cons (pe_prop (pv 0) T.c_Loop T.p_Loop_turns (ok_Loop_turns T) (hr.mono (by decide)) T.b_Loop_turns .nil pass0 rfl) (pa_cons (pe_fld (pv 0) rfl) pa_nil))))))))
theorem sc_Loop_made : FnScope ["cls", "row", "loop"] ["cls", "row"] (defScope st_Loop_made) := ⟨rfl, rfl, rfl, by decide +kernel, rfl, by decide +kernel, by decide +kernel⟩
theorem ok_Loop_made (T : Tx w K mg) : FnOk P w K mg base CX0 6 (He5.wf K (He.ga K "Loop") "classmethod" "made") (fdOf K (He5.wf K (He.ga K "Loop") "classmethod" "made")) ["cls", "row"] (sp_Loop_made K) := by
  have sc := sc_Loop_made
  obtain ⟨gqLoop_init_5_yes, kbqLoop_init_5_yes⟩ := T.qLoop_init_5_yes
  refine T.f_Loop_made.ok sc (fun vs H Q E h => ?_) (fun cdv A outer s H vs Q E hr h => ⟨t_Loop_made K, PSs.nox ?_, pure_Loop_made T.loopK h⟩)
  · obtain ⟨_, rfl, _⟩ := h
    rfl
  · exact (pss_cons (ps_if (pt_not (pt_val (pe_call (ok_is_row T) (hr.mono (by decide)) (by rfl) T.g_is_row T.k_is_row T.b_is_row .nil pass0 (pa_cons (pv 1) (pa_cons pe_int pa_nil))))) (pss_one ps_never) pss_nil)
  (pss_cons (ps_try_thru0 (pss_one (ps_set (i := 2) sc.nd rfl (by first | exact Or.inl rfl | exact Or.inr rfl) (pe_makeLK (ks := ["yes"]) (i := 0) T.mk_Loop (ok_Loop_init T) (hr.mono (by decide)) rfl (by first | exact Or.inl rfl | exact Or.inr (Or.inl rfl)) kbqLoop_init_5_yes pass0 (pa_cons (pe_ix ix_tup (pv 1) pe_int (fun _ _ => rfl)) (pa_cons (pe_ix ix_tup (pv 1) pe_int (fun _ _ => rfl)) (pa_cons (pe_ix ix_tup (pv 1) pe_int (fun _ _ => rfl)) (pa_cons (pe_ix ix_tup (pv 1) pe_int (fun _ _ => rfl)) pa_nil)))) (pk_cons (pe_ix ix_tup (pv 1) pe_int (fun _ _ => rfl)) pk_nil)))))
  (pss_cons (ps_if (pt_cmpR (op_neD hr.units) (pe_prop (pv 2) T.c_Loop T.p_Loop_row (ok_Loop_row T) (hr.mono (by decide)) T.b_Loop_row .nil pass0 rfl) (pv 1) (nomark _)) (pss_one ps_never) pss_nil)
  (pss_one (ps_ret (pv 2))))))
theorem sc_Loop_round_from : FnScope ["self", "state", "text", "count", "sign", "amount"] ["self", "state", "text"] (defScope st_Loop_round_from) := ⟨rfl, rfl, rfl, by decide +kernel, rfl, by decide +kernel, by decide +kernel⟩
theorem ok_Loop_round_from (T : Tx w K mg) : FnOk P w K mg base CX0 1 (He.ma K (He.ga K "Loop") "round_from") (fdOf K (He.ma K (He.ga K "Loop") "round_from")) ["self", "state", "text"] (sp_Loop_round_from K) := by
  have sc := sc_Loop_round_from
  refine T.f_Loop_round_from.ok sc (fun vs H Q E h => ?_) (fun cdv A outer s H vs Q E hr h => ⟨t_Loop_round_from K, PSs.nox ?_, pure_Loop_round_from T.loopK h⟩)
  · obtain ⟨_, _, _, rfl, _⟩ := h
    rfl
  · exact (pss_cons (ps_set (i := 3) sc.nd rfl (by first | exact Or.inl rfl | exact Or.inr rfl) pe_int)
  (pss_cons (ps_for PassesOwn.never rfl (pi_str (pv 2)) (pg_name (i := 4) sc.nd rfl (by first | exact Or.inl rfl | exact Or.inr rfl)) (pss_cons (ps_asg (pe_dget hr.u1 (pe_fld (pv 0) rfl) (pe_tup (pa_cons (pv 1) (pa_cons (pv 4) pa_nil))) (fun _ _ => rfl)) (pg_tup rfl (pgs_cons (pg_name (i := 1) sc.nd rfl (by first | exact Or.inl rfl | exact Or.inr rfl)) (pgs_cons (pg_name (i := 5) sc.nd rfl (by first | exact Or.inl rfl | exact Or.inr rfl)) pgs_nil))))
  (pss_one (ps_aug (i := 3) sc.nd rfl (by first | exact Or.inl rfl | exact Or.inr rfl) (pv 5) ip_add (by first | exact Or.inl rfl | exact Or.inr rfl)))))
  (pss_cons (ps_asg (pe_dget hr.u1 (pe_fld (pv 0) rfl) (pv 1) (fun _ _ => rfl)) (pg_tup rfl (pgs_cons (pg_name (i := 1) sc.nd rfl (by first | exact Or.inl rfl | exact Or.inr rfl)) (pgs_cons (pg_name (i := 5) sc.nd rfl (by first | exact Or.inl rfl | exact Or.inr rfl)) pgs_nil))))
  (pss_one (ps_ret (pe_tup (pa_cons (pv 1) (pa_cons (pe_op op_add (pv 3) (pv 5)) pa_nil))))))))
theorem sc_Loop_history : FnScope ["self", "text", "states", "counts", "state", "count"] ["self", "text"] (defScope st_Loop_history) := ⟨rfl, rfl, rfl, by decide +kernel, rfl, by decide +kernel, by decide +kernel⟩
theorem ok_Loop_history (T : Tx w K mg) : FnOk P w K mg base CX0 2 (He.ma K (He.ga K "Loop") "history") (fdOf K (He.ma K (He.ga K "Loop") "history")) ["self", "text"] (sp_Loop_history K) := by
  have sc := sc_Loop_history
  refine T.f_Loop_history.ok sc (fun vs H Q E h => ?_) (fun cdv A outer s H vs Q E hr h => ⟨t_Loop_history K, PSs.nox ?_, pure_Loop_history T.loopK h⟩)
  · obtain ⟨_, _, rfl, _⟩ := h
    rfl
  · exact (pss_cons (ps_if (pt_not (pt_val (pe_call (ok_is_word T) (hr.mono (by decide)) (by rfl) T.g_is_word T.k_is_word T.bf_is_word .nil pass0 (pa_cons (pv 1) (pa_cons (pe_fld (pv 0) rfl) pa_nil))))) (pss_one ps_never) pss_nil)
  (pss_cons (ps_par (by rfl) sc.nd rfl rfl (by decide) rfl rfl (pa_cons (pe_lst pa_nil) (pa_cons (pe_lst pa_nil) pa_nil)) (by rfl))
  (pss_cons (ps_set (i := 4) sc.nd rfl (by first | exact Or.inl rfl | exact Or.inr rfl) (pe_ix ix_tup (pe_fld (pv 0) rfl) pe_int (fun _ _ => rfl)))
  (pss_cons (ps_while PassesOwn.never (pt_cmpR op_notIn_seq (pv 4) (pv 2) (by rfl)) (pss_cons (ps_expr (pe_bm PySem.F.plainAttrs_list PySem.F.slot_list_append PySem.F.type_list_append mt_append (pv 2) (pa_cons (pv 4) pa_nil)))
  (pss_cons (ps_asg (pe_meth (pv 0) T.c_Loop T.m_Loop_round_from (ok_Loop_round_from T) (hr.mono (by decide)) T.b_Loop_round_from .nil pass0 (pa_cons (pv 4) (pa_cons (pv 1) pa_nil))) (pg_tup rfl (pgs_cons (pg_name (i := 4) sc.nd rfl (by first | exact Or.inl rfl | exact Or.inr rfl)) (pgs_cons (pg_name (i := 5) sc.nd rfl (by first | exact Or.inl rfl | exact Or.inr rfl)) pgs_nil))))
  (pss_one (ps_expr (pe_bm PySem.F.plainAttrs_list PySem.F.slot_list_append PySem.F.type_list_append mt_append (pv 3) (pa_cons (pv 5) pa_nil)))))))
  (pss_one (ps_ret (pe_tup (pa_cons (pv 2) (pa_cons (pv 3) (pa_cons (pe_bm PySem.F.plainAttrs_list PySem.F.slot_list_index PySem.F.type_list_index mt_index (pv 2) (pa_cons (pv 4) pa_nil)) pa_nil))))))))))
theorem sc_Loop_answer : FnScope ["self", "text", "lap", "states", "counts", "begin", "count"] ["self", "text", "lap"] (defScope st_Loop_answer) := ⟨rfl, rfl, rfl, by decide +kernel, rfl, by decide +kernel, by decide +kernel⟩
theorem ok_Loop_answer (T : Tx w K mg) : FnOk P w K mg base CX0 3 (He.ma K (He.ga K "Loop") "answer") (fdOf K (He.ma K (He.ga K "Loop") "answer")) ["self", "text", "lap"] (sp_Loop_answer K) := by
  have sc := sc_Loop_answer
  refine T.f_Loop_answer.ok sc (fun vs H Q E h => ?_) (fun cdv A outer s H vs Q E hr h => ⟨t_Loop_answer K, PSs.nox ?_, pure_Loop_answer T.loopK h⟩)
  · obtain ⟨_, _, _, rfl, _⟩ := h
    rfl
  · exact (pss_cons (ps_asg (pe_meth (pv 0) T.c_Loop T.m_Loop_history (ok_Loop_history T) (hr.mono (by decide)) T.b_Loop_history .nil pass0 (pa_cons (pv 1) pa_nil)) (pg_tup rfl (pgs_cons (pg_name (i := 3) sc.nd rfl (by first | exact Or.inl rfl | exact Or.inr rfl)) (pgs_cons (pg_name (i := 4) sc.nd rfl (by first | exact Or.inl rfl | exact Or.inr rfl)) (pgs_cons (pg_name (i := 5) sc.nd rfl (by first | exact Or.inl rfl | exact Or.inr rfl)) pgs_nil)))))
  (pss_cons (ps_if (PW.pt (pw_or (pt_not (pt_val (pe_call (ok_is_integer T) (hr.mono (by decide)) (by rfl) T.g_is_integer T.k_is_integer T.b_is_integer .nil pass0 (pa_cons (pv 2) pa_nil)))) (pw_or1 (pt_cmpR op_lt (pv 2) pe_int (nomark _))))) (pss_one ps_never) pss_nil)
  (pss_cons (ps_set (i := 6) sc.nd rfl (by first | exact Or.inl rfl | exact Or.inr rfl) (pe_ix ix_list (pv 4) (pe_call (ok_place_of T) (hr.mono (by decide)) (by rfl) T.g_place_of T.k_place_of T.b_place_of .nil pass0 (pa_cons (pe_op op_sub (pv 2) pe_int) (pa_cons (pe_callB call_len (by rfl) T.n_len (by decide +kernel) (pa_cons (pv 3) pa_nil)) (pa_cons (pv 5) pa_nil)))) (fun _ _ => rfl)))
  (pss_one (ps_ret (pe_tup (pa_cons (pv 6) (pa_cons (pe_cmpR op_in_seq (pe_ix ix_list (pv 3) (pe_call (ok_place_of T) (hr.mono (by decide)) (by rfl) T.g_place_of T.k_place_of T.b_place_of .nil pass0 (pa_cons (pv 2) (pa_cons (pe_callB call_len (by rfl) T.n_len (by decide +kernel) (pa_cons (pv 3) pa_nil)) (pa_cons (pv 5) pa_nil)))) (fun _ _ => rfl)) (pe_fld (pv 0) rfl) (by rfl)) pa_nil))))))))
theorem sc_is_lap : FnScope ["value"] ["value"] (defScope st_is_lap) := ⟨rfl, rfl, rfl, by decide +kernel, rfl, by decide +kernel, by decide +kernel⟩
theorem ok_is_lap (T : Tx w K mg) : FnOk P w K mg base CX0 3 (He.ga K "is_lap") (fdOf K (He.ga K "is_lap")) ["value"] (sp_is_lap K) := by
  have sc := sc_is_lap
  refine T.f_is_lap.ok sc (fun vs H Q E h => ?_) (fun cdv A outer s H vs Q E hr h => ⟨t_is_lap K, PSs.nox ?_, pure_is_lap h⟩)
  · obtain ⟨_, rfl, _⟩ := h
    rfl
  · exact (pss_one (ps_ret (pe_call (ok_is_within T) (hr.mono (by decide)) (by rfl) T.g_is_within T.k_is_within T.b_is_within .nil pass0 (pa_cons (pv 0) (pa_cons pe_int (pa_cons (pe_globI (by rfl) T.g_MOST_ROUNDS) pa_nil))))))
theorem sc_shows_differ : FnScope ["loop", "kind", "rest", "certificate", "one", "other", "lap"] ["loop", "kind", "rest", "certificate"] (defScope st_shows_differ) := ⟨rfl, rfl, rfl, by decide +kernel, rfl, by decide +kernel, by decide +kernel⟩
theorem ok_shows_differ (T : Tx w K mg) : FnOk P w K mg base CX0 4 (He.ga K "shows_differ") (fdOf K (He.ga K "shows_differ")) ["loop", "kind", "rest", "certificate"] (sp_shows_differ K) := by
  have sc := sc_shows_differ
  obtain ⟨ds_is_word, dv_is_word, db_is_word⟩ := T.bd1_is_word
  refine T.f_shows_differ.ok sc (fun vs H Q E h => ?_) (fun cdv A outer s H vs Q E hr h => ⟨t_shows_differ K, PSs.nox ?_, pure_shows_differ T.ringK h⟩)
  · obtain ⟨_, _, _, _, rfl, _⟩ := h
    rfl
  · exact (pss_cons (ps_asg (pv 2) (pg_tup rfl (pgs_cons (pg_name (i := 4) sc.nd rfl (by first | exact Or.inl rfl | exact Or.inr rfl)) (pgs_cons (pg_name (i := 5) sc.nd rfl (by first | exact Or.inl rfl | exact Or.inr rfl)) (pgs_cons (pg_name (i := 6) sc.nd rfl (by first | exact Or.inl rfl | exact Or.inr rfl)) pgs_nil)))))
  (pss_cons (ps_if (PW.pt (pw_or (pt_not (pt_val (pe_call (ok_is_word T) (hr.mono (by decide)) (by rfl) T.g_is_word T.k_is_word db_is_word dv_is_word pass0 (pa_cons (pv 4) pa_nil)))) (pw_or (pt_not (pt_val (pe_call (ok_is_word T) (hr.mono (by decide)) (by rfl) T.g_is_word T.k_is_word db_is_word dv_is_word pass0 (pa_cons (pv 5) pa_nil)))) (pw_or (pt_not (pt_val (pe_call (ok_is_lap T) (hr.mono (by decide)) (by rfl) T.g_is_lap T.k_is_lap T.b_is_lap .nil pass0 (pa_cons (pv 6) pa_nil)))) (pw_or1 (pt_not (pt_val (pe_call (ok_is_row T) (hr.mono (by decide)) (by rfl) T.g_is_row T.k_is_row T.b_is_row .nil pass0 (pa_cons (pv 3) (pa_cons pe_int pa_nil)))))))))) (pss_one (ps_ret pe_bl)) pss_nil)
  (pss_cons (ps_if (PW.pt (pw_or (pt_cmpR (op_notInO T.s_Kind_contains (ok_Kind_contains T) (hr.mono (by decide)) T.b_Kind_contains pass0) (pe_make T.mk_Ring (ok_Ring_init T) (hr.mono (by decide)) (by rfl) T.g_Ring T.b_Ring_init .nil pass0 (pa_cons (pv 4) pa_nil)) (pv 1) (by rfl)) (pw_or1 (pt_cmpR (op_neA T.ne_Ring T.s_Ring_eq (ok_Ring_eq T) (hr.mono (by decide)) T.b_Ring_eq pass0) (pe_make T.mk_Ring (ok_Ring_init T) (hr.mono (by decide)) (by rfl) T.g_Ring T.b_Ring_init .nil pass0 (pa_cons (pv 4) pa_nil)) (pe_make T.mk_Ring (ok_Ring_init T) (hr.mono (by decide)) (by rfl) T.g_Ring T.b_Ring_init .nil pass0 (pa_cons (pv 5) pa_nil)) (nomark _))))) (pss_one (ps_ret pe_bl)) pss_nil)
  (pss_one (ps_ret (pe_cmpR (op_neD hr.units) (pe_meth (pv 0) T.c_Loop T.m_Loop_answer (ok_Loop_answer T) (hr.mono (by decide)) T.b_Loop_answer .nil pass0 (pa_cons (pv 4) (pa_cons (pv 6) pa_nil))) (pe_meth (pv 0) T.c_Loop T.m_Loop_answer (ok_Loop_answer T) (hr.mono (by decide)) T.b_Loop_answer .nil pass0 (pa_cons (pv 5) (pa_cons (pv 6) pa_nil))) (nomark _)))))))
theorem sc_loop_of : FnScope ["value"] ["value"] (defScope st_loop_of) := ⟨rfl, rfl, rfl, by decide +kernel, rfl, by decide +kernel, by decide +kernel⟩
theorem ok_loop_of (T : Tx w K mg) : FnOk P w K mg base CX0 7 (He.ga K "loop_of") (fdOf K (He.ga K "loop_of")) ["value"] (sp_loop_of K) := by
  have sc := sc_loop_of
  refine T.f_loop_of.ok sc (fun vs H Q E h => ?_) (fun cdv A outer s H vs Q E hr h => ⟨t_loop_of K, PSs.nox ?_, pure_loop_of h⟩)
  · obtain ⟨_, rfl, _⟩ := h
    rfl
  · exact (pss_one (ps_try_thru0 (pss_one (ps_ret (ClX.pe_cmeth (pe_glob (by rfl) T.g_Loop (show RelV (.ref (He.ga K "Loop")) (.ref (He.ga K "Loop")) from rfl)) T.cr_Loop T.cm_Loop_made ((ok_Loop_made T).raw T.b_Loop_made .nil) (hr.mono (by decide)) pass0 (pa_cons (pv 0) pa_nil))))))
theorem sc_kind_of : FnScope ["value"] ["value"] (defScope st_kind_of) := ⟨rfl, rfl, rfl, by decide +kernel, rfl, by decide +kernel, by decide +kernel⟩
theorem ok_kind_of (T : Tx w K mg) : FnOk P w K mg base CX0 6 (He.ga K "kind_of") (fdOf K (He.ga K "kind_of")) ["value"] (sp_kind_of K) := by
  have sc := sc_kind_of
  refine T.f_kind_of.ok sc (fun vs H Q E h => ?_) (fun cdv A outer s H vs Q E hr h => ⟨t_kind_of K, PSs.nox ?_, pure_kind_of h⟩)
  · obtain ⟨_, rfl, _⟩ := h
    rfl
  · exact (pss_one (ps_try_thru0 (pss_one (ps_ret (ClX.pe_cmeth (pe_glob (by rfl) T.g_Kind (show RelV (.ref (He.ga K "Kind")) (.ref (He.ga K "Kind")) from rfl)) T.cr_Kind T.cm_Kind_made ((ok_Kind_made T).raw T.b_Kind_made .nil) (hr.mono (by decide)) pass0 (pa_cons (pv 0) pa_nil))))))
theorem sc_accepts : FnScope ["claim", "certificate", "loop", "kind", "sign", "shows"] ["claim", "certificate"] (defScope st_accepts) := ⟨rfl, rfl, rfl, by decide +kernel, rfl, by decide +kernel, by decide +kernel⟩
theorem ok_accepts (T : Tx w K mg) : FnOk P w K mg base CX0 8 (He.ga K "accepts") (fdOf K (He.ga K "accepts")) ["claim", "certificate"] (sp_accepts K w) := by
  have sc := sc_accepts
  refine T.f_accepts.ok sc (fun vs H Q E h => ?_) (fun cdv A outer s H vs Q E hr h => ⟨t_accepts K w, PSs.nox ?_, pure_accepts T.kdL h⟩)
  · obtain ⟨_, _, rfl, _⟩ := h
    rfl
  · exact (pss_cons (ps_if (PW.pt (pw_or (pt_not (pt_val (pe_callB call_isi (by rfl) T.n_isinstance (by decide +kernel) (pa_cons (pv 0) (pa_cons (pe_bltn (by rfl) T.n_tuple (by decide +kernel) rfl) pa_nil))))) (pw_or (pt_cmpR op_lt (pe_callB call_len (by rfl) T.n_len (by decide +kernel) (pa_cons (pv 0) pa_nil)) pe_int (nomark _)) (pw_or1 (pt_not (pt_val (pe_callB call_isi (by rfl) T.n_isinstance (by decide +kernel) (pa_cons (pe_ix ix_tup (pv 0) pe_int (fun _ _ => rfl)) (pa_cons (pe_bltn (by rfl) T.n_str (by decide +kernel) rfl) pa_nil))))))))) (pss_one (ps_ret pe_bl)) pss_nil)
  (pss_cons (ps_if (PW.pt (pw_or (pt_cmpR op_notInKd (pe_ix ix_tup (pv 0) pe_int (fun _ _ => rfl)) (pe_glob (by rfl) T.g_LENGTHS (show RelV (.ref (He.ga K "LENGTHS")) (.ref (He.ga K "LENGTHS")) from rfl)) (by rfl)) (pw_or1 (pt_cmpR op_ne (pe_callB call_len (by rfl) T.n_len (by decide +kernel) (pa_cons (pv 0) pa_nil)) (pe_ix ix_kdict (pe_glob (by rfl) T.g_LENGTHS (show RelV (.ref (He.ga K "LENGTHS")) (.ref (He.ga K "LENGTHS")) from rfl)) (pe_ix ix_tup (pv 0) pe_int (fun _ _ => rfl)) (fun _ _ => rfl)) (nomark _))))) (pss_one (ps_ret pe_bl)) pss_nil)
  (pss_cons (ps_asg (pe_tup (pa_cons (pe_call (ok_loop_of T) (hr.mono (by decide)) (by rfl) T.g_loop_of T.k_loop_of T.b_loop_of .nil pass0 (pa_cons (pe_ix ix_tup (pv 0) pe_int (fun _ _ => rfl)) pa_nil)) (pa_cons (pe_call (ok_kind_of T) (hr.mono (by decide)) (by rfl) T.g_kind_of T.k_kind_of T.b_kind_of .nil pass0 (pa_cons (pe_ix ix_tup (pv 0) pe_int (fun _ _ => rfl)) pa_nil)) pa_nil))) (pg_tup rfl (pgs_cons (pg_name (i := 2) sc.nd rfl (by first | exact Or.inl rfl | exact Or.inr rfl)) (pgs_cons (pg_name (i := 3) sc.nd rfl (by first | exact Or.inl rfl | exact Or.inr rfl)) pgs_nil))))
  (pss_cons (ps_if (PW.pt (pw_or (pt_cmpR op_isN (pv 2) pe_non (nomark _)) (pw_or (pt_cmpR op_isN (pv 3) pe_non (nomark _)) (pw_or1 (pt_not (pt_val (pe_callB (cr_all rfl) (by rfl) T.n_all (by decide +kernel) (pa_cons (pe_lc (own := [("sign", 4)]) (g := gName 4) (by rfl) sc.nd (pi_str (pe_prop (pv 3) T.c_Kind T.p_Kind_signs (ok_Kind_signs T) (hr.mono (by decide)) T.b_Kind_signs .nil pass0 rfl)) (blkOk_by (own := [("sign", 4)]) (by kernel_rfl)) (fun _ _ _ _ _ => pg_name (i := 4) sc.nd rfl (by first | exact Or.inl rfl | exact Or.inr rfl)) (fun _ _ _ _ _ => pts_nil) (fun _ _ _ _ _ => (pe_cmpR op_in_sign (pv 4) (pe_prop (pv 2) T.c_Loop T.p_Loop_signs (ok_Loop_signs T) (hr.mono (by decide)) T.b_Loop_signs .nil pass0 rfl) (by rfl)))) pa_nil)))))))) (pss_one (ps_ret pe_bl)) pss_nil)
  (pss_cons (ps_set (i := 5) sc.nd rfl (by first | exact Or.inl rfl | exact Or.inr rfl) (pe_ix ix_kdict (pe_glob (by rfl) T.g_JUDGES (show RelV (.ref (He.ga K "JUDGES")) (.ref (He.ga K "JUDGES")) from rfl)) (pe_ix ix_tup (pv 0) pe_int (fun _ _ => rfl)) (fun _ _ => rfl)))
  (pss_one (ps_ret (pe_callL (i := 5) (ok_shows_differ T) (hr.mono (by decide)) rfl (by first | exact Or.inl rfl | exact Or.inr (Or.inl rfl)) T.k_shows_differ T.b_shows_differ pass0 (pa_cons (pv 2) (pa_cons (pv 3) (pa_cons (pe_slice sl_tupA (pv 0) (po_some pe_int) po_none) (pa_cons (pv 1) pa_nil))))))))))))
theorem sc_law7_cell : FnScope ["_law_cells", "_law_at", "_law_mixed", "_law_each"] ["_law_cells", "_law_at"] (defScope st_law7_cell) := ⟨rfl, rfl, rfl, by decide +kernel, rfl, by decide +kernel, by decide +kernel⟩
theorem ok_law7_cell (T : Tx w K mg) : FnOk P w K mg base CX0 1 (He.ga K "_law_cell") (fdOf K (He.ga K "_law_cell")) ["_law_cells", "_law_at"] (sp_law7_cell K) := by
  have sc := sc_law7_cell
  refine T.f_law7_cell.ok sc (fun vs H Q E h => ?_) (fun cdv A outer s H vs Q E hr h => ⟨t_law7_cell K, PSs.nox ?_, pure_law7_cell h⟩)
  · obtain ⟨_, _, _, rfl, _⟩ := h
    rfl
  · exact (pss_cons (ps_if (pt_cmpR op_lt (pv 1) (pe_callB call_len (by rfl) T.n_len (by decide +kernel) (pa_cons (pv 0) pa_nil)) (nomark _)) (pss_one (ps_ret (pe_ix ix_list (pv 0) (pv 1) (fun _ _ => rfl)))) pss_nil)
  (pss_cons (ps_set (i := 2) sc.nd rfl (by first | exact Or.inl rfl | exact Or.inr rfl) (pe_op op_add pe_int (pe_op op_mul pe_int (pv 1))))
  (pss_cons (ps_for PassesOwn.never rfl (pi_list (pe_slice sl_list (pv 0) po_none (po_some pe_int))) (pg_name (i := 3) sc.nd rfl (by first | exact Or.inl rfl | exact Or.inr rfl)) (pss_one (ps_set (i := 2) sc.nd rfl (by first | exact Or.inl rfl | exact Or.inr rfl) (pe_op op_mod (pe_callTy call_int1 (by rfl) T.n_int (by decide +kernel) (pa_cons (pe_op op_add (pe_op op_add (pe_op op_mul (pv 2) pe_int) (pe_op op_mod (pe_callTy call_int1 (by rfl) T.n_int (by decide +kernel) (pa_cons (pv 3) pa_nil)) pe_int)) pe_int) pa_nil)) pe_int))))
  (pss_one (ps_ret (pv 2))))))
theorem sc_law7_purse : FnScope ["_law_cell_here", "_law_start", "_law_digits"] ["_law_cell_here"] (defScope st_law7_purse) := ⟨rfl, rfl, rfl, by decide +kernel, rfl, by decide +kernel, by decide +kernel⟩
theorem ok_law7_purse (T : Tx w K mg) : FnOk P w K mg base CX0 1 (He.ga K "_law_purse") (fdOf K (He.ga K "_law_purse")) ["_law_cell_here"] (sp_law7_purse K) := by
  have sc := sc_law7_purse
  refine T.f_law7_purse.ok sc (fun vs H Q E h => ?_) (fun cdv A outer s H vs Q E hr h => ⟨t_law7_purse K, PSs.nox ?_, pure_law7_purse h⟩)
  · obtain ⟨_, rfl, _⟩ := h
    rfl
  · exact (pss_cons (ps_set (i := 1) sc.nd rfl (by first | exact Or.inl rfl | exact Or.inr rfl) (pe_callTy call_int1 (by rfl) T.n_int (by decide +kernel) (pa_cons (pv 0) pa_nil)))
  (pss_cons (ps_set (i := 2) sc.nd rfl (by first | exact Or.inl rfl | exact Or.inr rfl) (pe_ifExp (PW.pt (pw_or (pt_cmpR op_lt (pv 1) pe_int (nomark _)) (pw_or1 (pt_cmpR op_ge (pv 1) (pe_op op_pow pe_int pe_int) (nomark _))))) (pe_callB call_abs (by rfl) T.n_abs (by decide +kernel) (pa_cons (pv 1) pa_nil)) pe_int))
  (pss_one (ps_ret (pe_lst (pa_cons (pe_op op_mod (pe_callTy call_int1 (by rfl) T.n_int (by decide +kernel) (pa_cons (pv 1) pa_nil)) pe_int) (pa_cons (pv 2) (pa_cons pe_int pa_nil))))))))
theorem sc_law7_pick : FnScope ["_law_purse_here", "_law_many", "_law_mixed", "_law_digit"] ["_law_purse_here", "_law_many"] (defScope st_law7_pick) := ⟨rfl, rfl, rfl, by decide +kernel, rfl, by decide +kernel, by decide +kernel⟩
theorem ok_law7_pick (T : Tx w K mg) : FnOk P w K mg base CX0 1 (He.ga K "_law_pick") (fdOf K (He.ga K "_law_pick")) ["_law_purse_here", "_law_many"] (sp_law7_pick K) := by
  have sc := sc_law7_pick
  refine T.f_law7_pick.ok sc (fun vs H Q E h => ?_) (fun cdv A outer s H vs Q E hr h => ⟨t_law7_pick K, PSs.nox ?_, pure_law7_pick h⟩)
  · obtain ⟨_, _, rfl, _⟩ := h
    rfl
  · exact (pss_cons (ps_asg (pe_op op_add (pe_ix ix_list (pv 0) pe_int (fun _ _ => rfl)) pe_int) (pg_sub (pv 0) pe_int set_list))
  (pss_cons (ps_set (i := 2) sc.nd rfl (by first | exact Or.inl rfl | exact Or.inr rfl) (pe_callTy call_int1 (by rfl) T.n_int (by decide +kernel) (pa_cons (pe_ix ix_list (pv 0) pe_int (fun _ _ => rfl)) pa_nil)))
  (pss_cons (ps_set (i := 2) sc.nd rfl (by first | exact Or.inl rfl | exact Or.inr rfl) (pe_op op_mod (pe_callTy call_int1 (by rfl) T.n_int (by decide +kernel) (pa_cons (pe_op op_add (pe_op op_add (pe_op op_mul (pv 2) (pe_op op_add (pe_op op_mod (pe_callTy call_int1 (by rfl) T.n_int (by decide +kernel) (pa_cons (pv 2) pa_nil)) pe_int) pe_int)) (pe_op op_mul pe_int (pe_ix ix_list (pv 0) pe_int (fun _ _ => rfl)))) pe_int) pa_nil)) pe_int))
  (pss_cons (ps_asg (pv 2) (pg_sub (pv 0) pe_int set_list))
  (pss_cons (ps_if (pt_cmpR op_gt (pe_ix ix_list (pv 0) pe_int (fun _ _ => rfl)) pe_int (nomark _)) (pss_cons (ps_asg (pe_callB call_divmodW (by rfl) T.n_divmod (by decide +kernel) (pa_cons (pe_ix ix_list (pv 0) pe_int (fun _ _ => rfl)) (pa_cons (pv 1) pa_nil))) (pg_tup rfl (pgs_cons (pg_sub (pv 0) pe_int set_list) (pgs_cons (pg_name (i := 3) sc.nd rfl (by first | exact Or.inl rfl | exact Or.inr rfl)) pgs_nil))))
  (pss_one (ps_ret (pv 3)))) pss_nil)
  (pss_one (ps_ret (pe_op op_mod (pe_callTy call_int1 (by rfl) T.n_int (by decide +kernel) (pa_cons (pe_op op_fdiv (pv 2) pe_int) pa_nil)) (pv 1)))))))))
theorem sc_law_wholeK : FnScope ["_law_thing"] ["_law_thing"] (defScope st_law_wholeK) := ⟨rfl, rfl, rfl, by decide +kernel, rfl, by decide +kernel, by decide +kernel⟩
theorem ok_law_wholeK (T : Tx w K mg) : FnOk P w K mg base CX0 1 (He.ga K "_law_whole") (fdOf K (He.ga K "_law_whole")) ["_law_thing"] (sp_law_wholeK K) := by
  have sc := sc_law_wholeK
  refine T.f_law_wholeK.ok sc (fun vs H Q E h => ?_) (fun cdv A outer s H vs Q E hr h => ⟨t_law_wholeK K, PSs.nox ?_, pure_law_wholeK h⟩)
  · obtain ⟨_, _, rfl, _⟩ := h
    rfl
  · exact (pss_one (ps_ret (pe_and (pe_callB call_isi (by rfl) T.n_isinstance (by decide +kernel) (pa_cons (pv 0) (pa_cons (pe_bltn (by rfl) T.n_int (by decide +kernel) rfl) pa_nil))) (pe_one (pe_not (pe_callB call_isi (by rfl) T.n_isinstance (by decide +kernel) (pa_cons (pv 0) (pa_cons (pe_bltn (by rfl) T.n_bool (by decide +kernel) rfl) pa_nil))))))))
theorem sc_law7_amount : FnScope ["_law_purse_here", "_law_way"] ["_law_purse_here"] (defScope st_law7_amount) := ⟨rfl, rfl, rfl, by decide +kernel, rfl, by decide +kernel, by decide +kernel⟩
theorem ok_law7_amount (T : Tx w K mg) : FnOk P w K mg base CX0 2 (He.ga K "_law_amount") (fdOf K (He.ga K "_law_amount")) ["_law_purse_here"] (sp_law7_amount K) := by
  have sc := sc_law7_amount
  refine T.f_law7_amount.ok sc (fun vs H Q E h => ?_) (fun cdv A outer s H vs Q E hr h => ⟨t_law7_amount K, PSs.nox ?_, pure_law7_amount h⟩)
  · obtain ⟨_, rfl, _⟩ := h
    rfl
  · exact (pss_cons (ps_set (i := 1) sc.nd rfl (by first | exact Or.inl rfl | exact Or.inr rfl) (pe_call (ok_law7_pick T) (hr.mono (by decide)) (by rfl) T.g_law7_pick T.k_law7_pick T.b_law7_pick .nil pass0 (pa_cons (pv 0) (pa_cons pe_int pa_nil))))
  (pss_cons (ps_if (pt_cmpR op_lt (pv 1) pe_int (nomark _)) (pss_one (ps_ret pe_int)) pss_nil)
  (pss_cons (ps_if (pt_cmpR op_lt (pv 1) pe_int (nomark _)) (pss_one (ps_ret (pe_op op_sub (pe_call (ok_law7_pick T) (hr.mono (by decide)) (by rfl) T.g_law7_pick T.k_law7_pick T.b_law7_pick .nil pass0 (pa_cons (pv 0) (pa_cons pe_int pa_nil))) pe_int))) pss_nil)
  (pss_one (ps_ret (pe_ix ix_list (pe_lst (pa_cons (pe_op op_pow pe_int pe_int) (pa_cons (pe_op op_sub (pe_op op_sub pe_int (pe_op op_pow pe_int pe_int)) pe_int) (pa_cons pe_int (pa_cons (pe_op op_sub pe_int pe_int) pa_nil))))) (pe_call (ok_law7_pick T) (hr.mono (by decide)) (by rfl) T.g_law7_pick T.k_law7_pick T.b_law7_pick .nil pass0 (pa_cons (pv 0) (pa_cons pe_int pa_nil))) (fun _ _ => rfl)))))))
theorem sc_law7_signs : FnScope ["_law_purse_here", "_law_first"] ["_law_purse_here"] (defScope st_law7_signs) := ⟨rfl, rfl, rfl, by decide +kernel, rfl, by decide +kernel, by decide +kernel⟩
theorem ok_law7_signs (T : Tx w K mg) : FnOk P w K mg base CX0 2 (He.ga K "_law_signs") (fdOf K (He.ga K "_law_signs")) ["_law_purse_here"] (sp_law7_signs K) := by
  have sc := sc_law7_signs
  refine T.f_law7_signs.ok sc (fun vs H Q E h => ?_) (fun cdv A outer s H vs Q E hr h => ⟨t_law7_signs K, PSs.nox ?_, pure_law7_signs h⟩)
  · obtain ⟨_, rfl, _⟩ := h
    rfl
  · exact (pss_cons (ps_set (i := 1) sc.nd rfl (by first | exact Or.inl rfl | exact Or.inr rfl) (pe_ix ix_str pe_str (pe_call (ok_law7_pick T) (hr.mono (by decide)) (by rfl) T.g_law7_pick T.k_law7_pick T.b_law7_pick .nil pass0 (pa_cons (pv 0) (pa_cons pe_int pa_nil))) (fun _ _ => rfl)))
  (pss_one (ps_ret (pe_ix ix_list (pe_lst (pa_cons (pv 1) (pa_cons (pe_op op_addS (pv 1) pe_str) (pa_cons (pe_op op_addS (pv 1) pe_str) (pa_cons pe_str (pa_cons (pe_op op_addS (pv 1) pe_str) pa_nil)))))) (pe_call (ok_law7_pick T) (hr.mono (by decide)) (by rfl) T.g_law7_pick T.k_law7_pick T.b_law7_pick .nil pass0 (pa_cons (pv 0) (pa_cons pe_int pa_nil))) (fun _ _ => rfl)))))
theorem sc_law7_wider : FnScope ["_law_purse_here", "_law_signs_here"] ["_law_purse_here", "_law_signs_here"] (defScope st_law7_wider) := ⟨rfl, rfl, rfl, by decide +kernel, rfl, by decide +kernel, by decide +kernel⟩
theorem ok_law7_wider (T : Tx w K mg) : FnOk P w K mg base CX0 2 (He.ga K "_law_wider") (fdOf K (He.ga K "_law_wider")) ["_law_purse_here", "_law_signs_here"] (sp_law7_wider K) := by
  have sc := sc_law7_wider
  refine T.f_law7_wider.ok sc (fun vs H Q E h => ?_) (fun cdv A outer s H vs Q E hr h => ⟨t_law7_wider K, PSs.nox ?_, pure_law7_wider h⟩)
  · obtain ⟨_, _, rfl, _⟩ := h
    rfl
  · exact (pss_one (ps_ret (pe_ifExp (pt_cmpR op_eq (pe_call (ok_law7_pick T) (hr.mono (by decide)) (by rfl) T.g_law7_pick T.k_law7_pick T.b_law7_pick .nil pass0 (pa_cons (pv 0) (pa_cons pe_int pa_nil))) pe_int (nomark _)) (pe_join pe_str (pe_callB (cr_srt rfl) (by rfl) T.n_sorted (by decide +kernel) (pa_cons (pe_op op_cat (pe_callTy (call_listS rfl) (by rfl) T.n_list (by decide +kernel) (pa_cons (pv 1) pa_nil)) (pe_lst (pa_cons pe_str pa_nil))) pa_nil))) (pv 1))))
theorem sc_law7_model : FnScope ["_law_purse_here", "_law_signs_here", "_law_most", "_law_size", "_law_steps", "_law_sign", "_law_state", "_law_way", "_law_goal", "_law_later", "_law_ends", "_law_says"] ["_law_purse_here", "_law_signs_here", "_law_most"] (defScope st_law7_model) := ⟨rfl, rfl, rfl, by decide +kernel, rfl, by decide +kernel, by decide +kernel⟩
theorem ok_law7_model (T : Tx w K mg) : FnOk P w K mg base CX0 3 (He.ga K "_law_model") (fdOf K (He.ga K "_law_model")) ["_law_purse_here", "_law_signs_here", "_law_most"] (sp_law7_model K) := by
  have sc := sc_law7_model
  refine T.f_law7_model.ok sc (fun vs H Q E h => ?_) (fun cdv A outer s H vs Q E hr h => ⟨t_law7_model K, PSs.nox ?_, pure_law7_model h⟩)
  · obtain ⟨_, _, _, rfl, _⟩ := h
    rfl
  · exact (pss_cons (ps_set (i := 3) sc.nd rfl (by first | exact Or.inl rfl | exact Or.inr rfl) (pe_op op_add pe_int (pe_callB (call_min2 rfl) (by rfl) T.n_min (by decide +kernel) (pa_cons (pe_ix ix_list (pe_lst (pa_cons pe_int (pa_cons pe_int (pa_cons pe_int (pa_cons pe_int (pa_cons pe_int pa_nil)))))) (pe_call (ok_law7_pick T) (hr.mono (by decide)) (by rfl) T.g_law7_pick T.k_law7_pick T.b_law7_pick .nil pass0 (pa_cons (pv 0) (pa_cons pe_int pa_nil))) (fun _ _ => rfl)) (pa_cons (pe_op op_sub (pv 2) pe_int) pa_nil)))))
  (pss_cons (ps_set (i := 4) sc.nd rfl (by first | exact Or.inl rfl | exact Or.inr rfl) pe_dnewT)
  (pss_cons (ps_for PassesOwn.never rfl (pi_str (pv 1)) (pg_name (i := 5) sc.nd rfl (by first | exact Or.inl rfl | exact Or.inr rfl)) (pss_cons (ps_par (by rfl) sc.nd rfl rfl (by decide) rfl rfl (pa_cons (pe_call (ok_law7_pick T) (hr.mono (by decide)) (by rfl) T.g_law7_pick T.k_law7_pick T.b_law7_pick .nil pass0 (pa_cons (pv 0) (pa_cons pe_int pa_nil))) (pa_cons (pe_call (ok_law7_pick T) (hr.mono (by decide)) (by rfl) T.g_law7_pick T.k_law7_pick T.b_law7_pick .nil pass0 (pa_cons (pv 0) (pa_cons (pv 3) pa_nil))) pa_nil)) (by rfl))
  (pss_one (ps_for PassesOwn.never rfl (pi_range1 (by rfl) T.n_range (pa_cons (pv 3) pa_nil)) (pg_name (i := 6) sc.nd rfl (by first | exact Or.inl rfl | exact Or.inr rfl)) (pss_cons (ps_set (i := 9) sc.nd rfl (by first | exact Or.inl rfl | exact Or.inr rfl) (pe_call (ok_law7_pick T) (hr.mono (by decide)) (by rfl) T.g_law7_pick T.k_law7_pick T.b_law7_pick .nil pass0 (pa_cons (pv 0) (pa_cons (pv 3) pa_nil))))
  (pss_cons (ps_if (pt_cmpR op_eq (pv 3) pe_int (nomark _)) (pss_one (ps_set (i := 9) sc.nd rfl (by first | exact Or.inl rfl | exact Or.inr rfl) (pe_ifExp (pt_cmpR op_eq (pv 7) pe_int (nomark _)) (pv 6) (pv 8)))) pss_nil)
  (pss_one (ps_dput hr.u1 (pv 4) (pe_tup (pa_cons (pv 6) (pa_cons (pv 5) pa_nil))) (pe_tup (pa_cons (pv 9) (pa_cons (pe_call (ok_law7_amount T) (hr.mono (by decide)) (by rfl) T.g_law7_amount T.k_law7_amount T.b_law7_amount .nil pass0 (pa_cons (pv 0) pa_nil)) pa_nil))) rfl))))))))
  (pss_cons (ps_setLc (i := 10) (own := [("_law_state", 6)]) (g := gName 6) (by rfl) sc.nd rfl rfl (sw_true rfl rfl rfl (by decide +kernel)) (pi_range1 (by rfl) T.n_range (pa_cons (pv 3) pa_nil)) (blkOk_by (own := [("_law_state", 6)]) (by kernel_rfl)) (fun _ _ _ _ _ => pg_name (i := 6) sc.nd rfl (by first | exact Or.inl rfl | exact Or.inr rfl)) (fun _ _ _ _ _ => pts_nil) (fun _ _ _ _ _ => (pe_tup (pa_cons (pe_call (ok_law7_pick T) (hr.mono (by decide)) (by rfl) T.g_law7_pick T.k_law7_pick T.b_law7_pick .nil pass0 (pa_cons (pv 0) (pa_cons (pv 3) pa_nil))) (pa_cons (pe_call (ok_law7_amount T) (hr.mono (by decide)) (by rfl) T.g_law7_amount T.k_law7_amount T.b_law7_amount .nil pass0 (pa_cons (pv 0) pa_nil)) pa_nil)))))
  (pss_cons (ps_setLc (i := 11) (own := [("_law_state", 6)]) (g := gName 6) (by rfl) sc.nd rfl rfl (sw_true rfl rfl rfl (by decide +kernel)) (pi_range1 (by rfl) T.n_range (pa_cons (pv 3) pa_nil)) (blkOk_by (own := [("_law_state", 6)]) (by kernel_rfl)) (fun _ _ _ _ _ => pg_name (i := 6) sc.nd rfl (by first | exact Or.inl rfl | exact Or.inr rfl)) (fun _ _ _ _ _ => pts_nil) (fun _ _ _ _ _ => (pe_cmpR op_eq (pe_call (ok_law7_pick T) (hr.mono (by decide)) (by rfl) T.g_law7_pick T.k_law7_pick T.b_law7_pick .nil pass0 (pa_cons (pv 0) (pa_cons pe_int pa_nil))) pe_int (nomark _))))
  (pss_one (ps_ret (pe_tup (pa_cons (pv 1) (pa_cons (pv 3) (pa_cons (pv 4) (pa_cons (pv 10) (pa_cons (pv 11) pa_nil)))))))))))))
theorem sc_law7_tags : FnScope ["_law_purse_here", "_law_size", "_law_some"] ["_law_purse_here", "_law_size"] (defScope st_law7_tags) := ⟨rfl, rfl, rfl, by decide +kernel, rfl, by decide +kernel, by decide +kernel⟩
theorem ok_law7_tags (T : Tx w K mg) : FnOk P w K mg base CX0 2 (He.ga K "_law_tags") (fdOf K (He.ga K "_law_tags")) ["_law_purse_here", "_law_size"] (sp_law7_tags K) := by
  have sc := sc_law7_tags
  refine T.f_law7_tags.ok sc (fun vs H Q E h => ?_) (fun cdv A outer s H vs Q E hr h => ⟨t_law7_tags K, PSs.nox ?_, pure_law7_tags h⟩)
  · obtain ⟨_, _, rfl, _⟩ := h
    rfl
  · exact (pss_cons (ps_set (i := 2) sc.nd rfl (by first | exact Or.inl rfl | exact Or.inr rfl) (pe_lst (pa_cons (pe_lst (pa_cons pe_str (pa_cons pe_str (pa_cons pe_str pa_nil)))) (pa_cons (pe_lst (pa_cons pe_str (pa_cons pe_str (pa_cons pe_str pa_nil)))) (pa_cons (pe_lst (pa_cons pe_str (pa_cons pe_str (pa_cons pe_str pa_nil)))) (pa_cons (pe_lst (pa_cons pe_str (pa_cons pe_str (pa_cons pe_str pa_nil)))) pa_nil))))))
  (pss_one (ps_ret (pe_slice sl_list (pe_ix ix_list (pv 2) (pe_call (ok_law7_pick T) (hr.mono (by decide)) (by rfl) T.g_law7_pick T.k_law7_pick T.b_law7_pick .nil pass0 (pa_cons (pv 0) (pa_cons pe_int pa_nil))) (fun _ _ => rfl)) po_none (po_some (pv 1))))))
theorem sc_law7_row : FnScope ["_law_model_here", "_law_tags_here", "_law_rows", "_law_turns_here", "_law_some", "_law_state", "_law_sign", "_law_later", "_law_amount_here"] ["_law_model_here", "_law_tags_here"] (defScope st_law7_row) := ⟨rfl, rfl, rfl, by decide +kernel, rfl, by decide +kernel, by decide +kernel⟩
theorem ok_law7_row (T : Tx w K mg) : FnOk P w K mg base CX0 1 (He.ga K "_law_row") (fdOf K (He.ga K "_law_row")) ["_law_model_here", "_law_tags_here"] (sp_law7_row K) := by
  have sc := sc_law7_row
  refine T.f_law7_row.ok sc (fun vs H Q E h => ?_) (fun cdv A outer s H vs Q E hr h => ⟨t_law7_row K, PSs.nox ?_, pure_law7_row h⟩)
  · obtain ⟨_, _, rfl, _⟩ := h
    rfl
  · exact (pss_cons (ps_par3 (by rfl) sc.nd rfl rfl rfl (by decide) (by decide) (by decide) rfl rfl rfl (pa_cons (pe_lst pa_nil) (pa_cons (pe_lst pa_nil) (pa_cons (pe_lst pa_nil) pa_nil))) (by rfl))
  (pss_cons (ps_for PassesOwn.never rfl (pi_range1 (by rfl) T.n_range (pa_cons (pe_ix ix_tup (pv 0) pe_int (fun _ _ => rfl)) pa_nil)) (pg_name (i := 5) sc.nd rfl (by first | exact Or.inl rfl | exact Or.inr rfl)) (pss_cons (ps_for PassesOwn.never rfl (pi_str (pe_ix ix_tup (pv 0) pe_int (fun _ _ => rfl))) (pg_name (i := 6) sc.nd rfl (by first | exact Or.inl rfl | exact Or.inr rfl)) (pss_cons (ps_asg (pe_dget hr.u1 (pe_ix ix_tup (pv 0) pe_int (fun _ _ => rfl)) (pe_tup (pa_cons (pv 5) (pa_cons (pv 6) pa_nil))) (fun _ _ => rfl)) (pg_tup rfl (pgs_cons (pg_name (i := 7) sc.nd rfl (by first | exact Or.inl rfl | exact Or.inr rfl)) (pgs_cons (pg_name (i := 8) sc.nd rfl (by first | exact Or.inl rfl | exact Or.inr rfl)) pgs_nil))))
  (pss_one (ps_expr (pe_bm PySem.F.plainAttrs_list PySem.F.slot_list_append PySem.F.type_list_append mt_append (pv 2) (pa_cons (pe_tup (pa_cons (pe_ix ix_list (pv 1) (pv 5) (fun _ _ => rfl)) (pa_cons (pv 6) (pa_cons (pe_ix ix_list (pv 1) (pv 7) (fun _ _ => rfl)) (pa_cons (pv 8) pa_nil))))) pa_nil))))))
  (pss_cons (ps_asg (pe_ix ix_list (pe_ix ix_tup (pv 0) pe_int (fun _ _ => rfl)) (pv 5) (fun _ _ => rfl)) (pg_tup rfl (pgs_cons (pg_name (i := 7) sc.nd rfl (by first | exact Or.inl rfl | exact Or.inr rfl)) (pgs_cons (pg_name (i := 8) sc.nd rfl (by first | exact Or.inl rfl | exact Or.inr rfl)) pgs_nil))))
  (pss_cons (ps_expr (pe_bm PySem.F.plainAttrs_list PySem.F.slot_list_append PySem.F.type_list_append mt_append (pv 3) (pa_cons (pe_tup (pa_cons (pe_ix ix_list (pv 1) (pv 5) (fun _ _ => rfl)) (pa_cons (pe_ix ix_list (pv 1) (pv 7) (fun _ _ => rfl)) (pa_cons (pv 8) pa_nil)))) pa_nil)))
  (pss_one (ps_set (i := 4) sc.nd rfl (by first | exact Or.inl rfl | exact Or.inr rfl) (pe_op op_cat (pv 4) (pe_op op_rep (pe_lst (pa_cons (pe_ix ix_list (pv 1) (pv 5) (fun _ _ => rfl)) pa_nil)) (pe_callTy call_int1 (by rfl) T.n_int (by decide +kernel) (pa_cons (pe_ix ix_list (pe_ix ix_tup (pv 0) pe_int (fun _ _ => rfl)) (pv 5) (fun _ _ => rfl)) pa_nil))))))))))
  (pss_one (ps_ret (pe_tup (pa_cons (pe_ix ix_tup (pv 0) pe_int (fun _ _ => rfl)) (pa_cons (pe_callTy call_tuple_of (by rfl) T.n_tuple (by decide +kernel) (pa_cons (pv 1) pa_nil)) (pa_cons (pe_callTy call_tuple_of (by rfl) T.n_tuple (by decide +kernel) (pa_cons (pv 2) pa_nil)) (pa_cons (pe_callTy call_tuple_of (by rfl) T.n_tuple (by decide +kernel) (pa_cons (pv 3) pa_nil)) (pa_cons (pe_callTy call_tuple_of (by rfl) T.n_tuple (by decide +kernel) (pa_cons (pv 4) pa_nil)) pa_nil))))))))))
theorem sc_law7_pairs : FnScope ["_law_purse_here", "_law_signs_here", "_law_way", "_law_found", "_law_one", "_law_other"] ["_law_purse_here", "_law_signs_here"] (defScope st_law7_pairs) := ⟨rfl, rfl, rfl, by decide +kernel, rfl, by decide +kernel, by decide +kernel⟩
theorem ok_law7_pairs (T : Tx w K mg) : FnOk P w K mg base CX0 2 (He.ga K "_law_pairs") (fdOf K (He.ga K "_law_pairs")) ["_law_purse_here", "_law_signs_here"] (sp_law7_pairs K) := by
  have sc := sc_law7_pairs
  refine T.f_law7_pairs.ok sc (fun vs H Q E h => ?_) (fun cdv A outer s H vs Q E hr h => ⟨t_law7_pairs K, PSs.nox ?_, pure_law7_pairs h⟩)
  · obtain ⟨_, _, rfl, _⟩ := h
    rfl
  · exact (pss_cons (ps_par (by rfl) sc.nd rfl rfl (by decide) rfl rfl (pa_cons (pe_call (ok_law7_pick T) (hr.mono (by decide)) (by rfl) T.g_law7_pick T.k_law7_pick T.b_law7_pick .nil pass0 (pa_cons (pv 0) (pa_cons pe_int pa_nil))) (pa_cons (pe_lst pa_nil) pa_nil)) (by rfl))
  (pss_cons (ps_for PassesOwn.never rfl (pi_str (pv 1)) (pg_name (i := 4) sc.nd rfl (by first | exact Or.inl rfl | exact Or.inr rfl)) (pss_one (ps_for PassesOwn.never rfl (pi_str (pv 1)) (pg_name (i := 5) sc.nd rfl (by first | exact Or.inl rfl | exact Or.inr rfl)) (pss_one (ps_if (PW.pt (pw_or (pt_cmpR op_eq (pv 2) pe_int (nomark _)) (pw_or1 (pt_cmpR op_gt (pe_call (ok_law7_pick T) (hr.mono (by decide)) (by rfl) T.g_law7_pick T.k_law7_pick T.b_law7_pick .nil pass0 (pa_cons (pv 0) (pa_cons pe_int pa_nil))) pe_int (nomark _))))) (pss_one (ps_expr (pe_bm PySem.F.plainAttrs_list PySem.F.slot_list_append PySem.F.type_list_append mt_append (pv 3) (pa_cons (pe_op op_addS (pv 4) (pv 5)) pa_nil)))) pss_nil)))))
  (pss_one (ps_ret (pv 3)))))
theorem sc_law7_words : FnScope ["_law_signs_here", "_law_pairs_here", "_law_most", "_law_found", "_law_line", "_law_size", "_law_longer", "_law_word", "_law_sign"] ["_law_signs_here", "_law_pairs_here", "_law_most"] (defScope st_law7_words) := ⟨rfl, rfl, rfl, by decide +kernel, rfl, by decide +kernel, by decide +kernel⟩
theorem ok_law7_words (T : Tx w K mg) : FnOk P w K mg base CX0 1 (He.ga K "_law_words") (fdOf K (He.ga K "_law_words")) ["_law_signs_here", "_law_pairs_here", "_law_most"] (sp_law7_words K) := by
  have sc := sc_law7_words
  refine T.f_law7_words.ok sc (fun vs H Q E h => ?_) (fun cdv A outer s H vs Q E hr h => ⟨t_law7_words K, PSs.nox ?_, pure_law7_words h⟩)
  · obtain ⟨_, _, rfl, _⟩ := h
    rfl
  · exact (pss_cons (ps_par (by rfl) sc.nd rfl rfl (by decide) rfl rfl (pa_cons (pe_lst pa_nil) (pa_cons (pe_callTy (call_listS rfl) (by rfl) T.n_list (by decide +kernel) (pa_cons (pv 0) pa_nil)) pa_nil)) (by rfl))
  (pss_cons (ps_for PassesOwn.never rfl (pi_range1 (by rfl) T.n_range (pa_cons (pv 2) pa_nil)) (pg_name (i := 5) sc.nd rfl (by first | exact Or.inl rfl | exact Or.inr rfl)) (pss_cons (ps_set (i := 3) sc.nd rfl (by first | exact Or.inl rfl | exact Or.inr rfl) (pe_op op_cat (pv 3) (pe_lc (own := [("_law_word", 7)]) (g := gName 7) (by rfl) sc.nd (pi_list (pv 4)) (blkOk_by (own := [("_law_word", 7)]) (by kernel_rfl)) (fun _ _ _ _ _ => pg_name (i := 7) sc.nd rfl (by first | exact Or.inl rfl | exact Or.inr rfl)) (fun _ _ _ _ _ => (pts_one (pt_cmpR op_in_seq (pe_op op_addS (pe_ix ix_str (pv 7) (pe_un un_neg pe_int) (fun _ _ => rfl)) (pe_ix ix_str (pv 7) pe_int (fun _ _ => rfl))) (pv 1) (by rfl)))) (fun _ _ _ _ _ => (pv 7)))))
  (pss_cons (ps_set (i := 6) sc.nd rfl (by first | exact Or.inl rfl | exact Or.inr rfl) (pe_lst pa_nil))
  (pss_cons (ps_for PassesOwn.never rfl (pi_list (pv 4)) (pg_name (i := 7) sc.nd rfl (by first | exact Or.inl rfl | exact Or.inr rfl)) (pss_one (ps_set (i := 6) sc.nd rfl (by first | exact Or.inl rfl | exact Or.inr rfl) (pe_op op_cat (pv 6) (pe_lc (own := [("_law_sign", 8)]) (g := gName 8) (by rfl) sc.nd (pi_str (pv 0)) (blkOk_by (own := [("_law_sign", 8)]) (by kernel_rfl)) (fun _ _ _ _ _ => pg_name (i := 8) sc.nd rfl (by first | exact Or.inl rfl | exact Or.inr rfl)) (fun _ _ _ _ _ => (pts_one (pt_cmpR op_in_seq (pe_op op_addS (pe_ix ix_str (pv 7) (pe_un un_neg pe_int) (fun _ _ => rfl)) (pv 8)) (pv 1) (by rfl)))) (fun _ _ _ _ _ => (pe_op op_addS (pv 7) (pv 8))))))))
  (pss_one (ps_set (i := 4) sc.nd rfl (by first | exact Or.inl rfl | exact Or.inr rfl) (pv 6)))))))
  (pss_one (ps_ret (pv 3)))))
theorem sc_law7_answers : FnScope ["_law_model_here", "_law_word", "_law_many", "_law_signs_here", "_law_size", "_law_steps", "_law_ends", "_law_says", "_law_state", "_law_found", "_law_turn", "_law_count", "_law_sign", "_law_amount_here"] ["_law_model_here", "_law_word", "_law_many"] (defScope st_law7_answers) := ⟨rfl, rfl, rfl, by decide +kernel, rfl, by decide +kernel, by decide +kernel⟩
theorem ok_law7_answers (T : Tx w K mg) : FnOk P w K mg base CX0 1 (He.ga K "_law_answers") (fdOf K (He.ga K "_law_answers")) ["_law_model_here", "_law_word", "_law_many"] (sp_law7_answers K) := by
  have sc := sc_law7_answers
  refine T.f_law7_answers.ok sc (fun vs H Q E h => ?_) (fun cdv A outer s H vs Q E hr h => ⟨t_law7_answers K, PSs.nox ?_, pure_law7_answers h⟩)
  · obtain ⟨_, _, _, rfl, _⟩ := h
    rfl
  · exact (pss_cons (ps_asg (pv 0) (pg_tup rfl (pgs_cons (pg_name (i := 3) sc.nd rfl (by first | exact Or.inl rfl | exact Or.inr rfl)) (pgs_cons (pg_name (i := 4) sc.nd rfl (by first | exact Or.inl rfl | exact Or.inr rfl)) (pgs_cons (pg_name (i := 5) sc.nd rfl (by first | exact Or.inl rfl | exact Or.inr rfl)) (pgs_cons (pg_name (i := 6) sc.nd rfl (by first | exact Or.inl rfl | exact Or.inr rfl)) (pgs_cons (pg_name (i := 7) sc.nd rfl (by first | exact Or.inl rfl | exact Or.inr rfl)) pgs_nil)))))))
  (pss_cons (ps_par (by rfl) sc.nd rfl rfl (by decide) rfl rfl (pa_cons pe_int (pa_cons (pe_lst pa_nil) pa_nil)) (by rfl))
  (pss_cons (ps_for PassesOwn.never rfl (pi_range1 (by rfl) T.n_range (pa_cons (pv 2) pa_nil)) (pg_name (i := 10) sc.nd rfl (by first | exact Or.inl rfl | exact Or.inr rfl)) (pss_cons (ps_set (i := 11) sc.nd rfl (by first | exact Or.inl rfl | exact Or.inr rfl) pe_int)
  (pss_cons (ps_for PassesOwn.never rfl (pi_str (pv 1)) (pg_name (i := 12) sc.nd rfl (by first | exact Or.inl rfl | exact Or.inr rfl)) (pss_cons (ps_asg (pe_dget hr.u1 (pv 5) (pe_tup (pa_cons (pv 8) (pa_cons (pv 12) pa_nil))) (fun _ _ => rfl)) (pg_tup rfl (pgs_cons (pg_name (i := 8) sc.nd rfl (by first | exact Or.inl rfl | exact Or.inr rfl)) (pgs_cons (pg_name (i := 13) sc.nd rfl (by first | exact Or.inl rfl | exact Or.inr rfl)) pgs_nil))))
  (pss_one (ps_set (i := 11) sc.nd rfl (by first | exact Or.inl rfl | exact Or.inr rfl) (pe_op op_add (pv 11) (pv 13))))))
  (pss_cons (ps_asg (pe_ix ix_list (pv 6) (pv 8) (fun _ _ => rfl)) (pg_tup rfl (pgs_cons (pg_name (i := 8) sc.nd rfl (by first | exact Or.inl rfl | exact Or.inr rfl)) (pgs_cons (pg_name (i := 13) sc.nd rfl (by first | exact Or.inl rfl | exact Or.inr rfl)) pgs_nil))))
  (pss_one (ps_expr (pe_bm PySem.F.plainAttrs_list PySem.F.slot_list_append PySem.F.type_list_append mt_append (pv 9) (pa_cons (pe_tup (pa_cons (pe_op op_add (pv 11) (pv 13)) (pa_cons (pe_ix ix_list (pv 7) (pv 8) (fun _ _ => rfl)) pa_nil))) pa_nil))))))))
  (pss_one (ps_ret (pv 9))))))
theorem sc_law7_near : FnScope ["_law_lap_here", "_law_size", "_law_period"] ["_law_lap_here", "_law_size"] (defScope st_law7_near) := ⟨rfl, rfl, rfl, by decide +kernel, rfl, by decide +kernel, by decide +kernel⟩
theorem ok_law7_near (T : Tx w K mg) : FnOk P w K mg base CX0 1 (He.ga K "_law_near") (fdOf K (He.ga K "_law_near")) ["_law_lap_here", "_law_size"] (sp_law7_near K) := by
  have sc := sc_law7_near
  refine T.f_law7_near.ok sc (fun vs H Q E h => ?_) (fun cdv A outer s H vs Q E hr h => ⟨t_law7_near K, PSs.nox ?_, pure_law7_near h⟩)
  · obtain ⟨_, _, rfl, _⟩ := h
    rfl
  · exact (pss_cons (ps_set (i := 2) sc.nd rfl (by first | exact Or.inl rfl | exact Or.inr rfl) (pe_ix ix_list (pe_lst (pa_cons pe_int (pa_cons pe_int (pa_cons pe_int (pa_cons pe_int pa_nil))))) (pv 1) (fun _ _ => rfl)))
  (pss_one (ps_ret (pe_ifExp (pt_cmpR op_lt (pv 0) (pe_op op_add (pv 1) (pv 2)) (nomark _)) (pv 0) (pe_op op_add (pv 1) (pe_op op_mod (pe_op op_sub (pe_callTy call_int1 (by rfl) T.n_int (by decide +kernel) (pa_cons (pv 0) pa_nil)) (pv 1)) (pv 2)))))))
theorem sc_law7_answer : FnScope ["_law_model_here", "_law_word", "_law_lap_here"] ["_law_model_here", "_law_word", "_law_lap_here"] (defScope st_law7_answer) := ⟨rfl, rfl, rfl, by decide +kernel, rfl, by decide +kernel, by decide +kernel⟩
theorem ok_law7_answer (T : Tx w K mg) : FnOk P w K mg base CX0 2 (He.ga K "_law_answer") (fdOf K (He.ga K "_law_answer")) ["_law_model_here", "_law_word", "_law_lap_here"] (sp_law7_answer K) := by
  have sc := sc_law7_answer
  refine T.f_law7_answer.ok sc (fun vs H Q E h => ?_) (fun cdv A outer s H vs Q E hr h => ⟨t_law7_answer K, PSs.nox ?_, pure_law7_answer h⟩)
  · obtain ⟨_, _, _, rfl, _⟩ := h
    rfl
  · exact (pss_one (ps_ret (pe_ix ix_list (pe_call (ok_law7_answers T) (hr.mono (by decide)) (by rfl) T.g_law7_answers T.k_law7_answers T.b_law7_answers .nil pass0 (pa_cons (pv 0) (pa_cons (pv 1) (pa_cons (pe_call (ok_law7_near T) (hr.mono (by decide)) (by rfl) T.g_law7_near T.k_law7_near T.b_law7_near .nil pass0 (pa_cons (pv 2) (pa_cons (pe_ix ix_tup (pv 0) pe_int (fun _ _ => rfl)) pa_nil))) pa_nil)))) (pe_un un_neg pe_int) (fun _ _ => rfl))))
theorem sc_law7_odd : FnScope ["_law_purse_here"] ["_law_purse_here"] (defScope st_law7_odd) := ⟨rfl, rfl, rfl, by decide +kernel, rfl, by decide +kernel, by decide +kernel⟩
theorem ok_law7_odd (T : Tx w K mg) : FnOk P w K mg base CX0 2 (He.ga K "_law_odd") (fdOf K (He.ga K "_law_odd")) ["_law_purse_here"] (sp_law7_odd K) := by
  have sc := sc_law7_odd
  refine T.f_law7_odd.ok sc (fun vs H Q E h => ?_) (fun cdv A outer s H vs Q E hr h => ⟨t_law7_odd K, PSs.nox ?_, pure_law7_odd h⟩)
  · obtain ⟨_, rfl, _⟩ := h
    rfl
  · exact (pss_one (ps_ret (pe_ix ix_list (pe_lst (pa_cons pe_non (pa_cons pe_bl (pa_cons pe_bl (pa_cons pe_str (pa_cons pe_str (pa_cons (pe_tup pa_nil) (pa_cons (pe_lst (pa_cons pe_int pa_nil)) (pa_cons pe_dnewK (pa_cons pe_int (pa_cons pe_int (pa_cons (pe_un un_neg pe_int) (pa_cons (pe_op op_pow pe_int pe_int) (pa_cons (pe_tup (pa_cons pe_str pa_nil)) (pa_cons pe_str pa_nil))))))))))))))) (pe_call (ok_law7_pick T) (hr.mono (by decide)) (by rfl) T.g_law7_pick T.k_law7_pick T.b_law7_pick .nil pass0 (pa_cons (pv 0) (pa_cons pe_int pa_nil))) (fun _ _ => rfl))))
theorem sc_law7_bent : FnScope ["_law_purse_here", "_law_thing", "_law_way", "_law_at"] ["_law_purse_here", "_law_thing"] (defScope st_law7_bent) := ⟨rfl, rfl, rfl, by decide +kernel, rfl, by decide +kernel, by decide +kernel⟩
theorem ok_law7_bent (T : Tx w K mg) : ∀ n : Nat, FnOk P w K mg base CX0 (n + 3) (He.ga K "_law_bent") (fdOf K (He.ga K "_law_bent")) ["_law_purse_here", "_law_thing"] (sp_law7_bent K n)
  | 0 => T.f_law7_bent.ok sc_law7_bent (fun vs H Q E h => False.elim h) (fun cdv A outer s H vs Q E hr h => False.elim h)
  | n + 1 => by
    have sc := sc_law7_bent
    have ih := ok_law7_bent T n
    refine T.f_law7_bent.ok sc (fun vs H Q E h => ?_) (fun cdv A outer s H vs Q E hr h => ⟨t_law7_bent K n, PSs.nox ?_, pure_law7_bent h⟩)
    · obtain ⟨_, _, rfl, _⟩ := h
      rfl
    · exact (pss_cons (ps_set (i := 2) sc.nd rfl (by first | exact Or.inl rfl | exact Or.inr rfl) (pe_call (ok_law7_pick T) (hr.mono (by omega)) (by rfl) T.g_law7_pick T.k_law7_pick T.b_law7_pick .nil pass0 (pa_cons (pv 0) (pa_cons pe_int pa_nil))))
  (pss_cons (ps_if (PW.pt (pw_and (pt_val (pe_callB call_isi (by rfl) T.n_isinstance (by decide +kernel) (pa_cons (pv 1) (pa_cons (pe_bltn (by rfl) T.n_tuple (by decide +kernel) rfl) pa_nil)))) (pw_and (pt_cmpR op_gt (pe_callB call_len (by rfl) T.n_len (by decide +kernel) (pa_cons (pv 1) pa_nil)) pe_int (nomark _)) (pw_and1 (pt_cmpR op_gt (pv 2) pe_int (nomark _)))))) (pss_cons (ps_set (i := 3) sc.nd rfl (by first | exact Or.inl rfl | exact Or.inr rfl) (pe_call (ok_law7_pick T) (hr.mono (by omega)) (by rfl) T.g_law7_pick T.k_law7_pick T.b_law7_pick .nil pass0 (pa_cons (pv 0) (pa_cons (pe_callB call_len (by rfl) T.n_len (by decide +kernel) (pa_cons (pv 1) pa_nil)) pa_nil))))
  (pss_cons (ps_if (PW.pt (pw_and (pt_cmpR op_eq (pv 2) pe_int (nomark _)) (pw_and1 (pt_cmpR op_eq (pv 3) pe_int (nomark _))))) (pss_one (ps_ret (pe_callTy call_list_of (by rfl) T.n_list (by decide +kernel) (pa_cons (pv 1) pa_nil)))) pss_nil)
  (pss_cons (ps_if (pt_cmpR op_eq (pv 2) pe_int (nomark _)) (pss_one (ps_ret (pe_op op_catA (pe_slice sl_tupA (pv 1) po_none (po_some (pv 3))) (pe_slice sl_tupA (pv 1) (po_some (pe_op op_add (pv 3) pe_int)) po_none)))) pss_nil)
  (pss_cons (ps_if (pt_cmpR op_eq (pv 2) pe_int (nomark _)) (pss_one (ps_ret (pe_op op_catA (pe_op op_catA (pe_slice sl_tupA (pv 1) po_none (po_some (pv 3))) (pe_tup (pa_cons (pe_ix ix_tup (pv 1) (pv 3) (fun _ _ => rfl)) pa_nil))) (pe_slice sl_tupA (pv 1) (po_some (pv 3)) po_none)))) pss_nil)
  (pss_one (ps_ret (pe_op op_catA (pe_op op_catA (pe_slice sl_tupA (pv 1) po_none (po_some (pv 3))) (pe_tup (pa_cons (pe_call ih (hr.mono (by omega)) (by rfl) T.g_law7_bent T.k_law7_bent T.b_law7_bent .nil pass0 (pa_cons (pv 0) (pa_cons (pe_ix ix_tup (pv 1) (pv 3) (fun _ _ => rfl)) pa_nil))) pa_nil))) (pe_slice sl_tupA (pv 1) (po_some (pe_op op_add (pv 3) pe_int)) po_none)))))))) pss_nil)
  (pss_cons (ps_if (PW.pt (pw_and (pt_val (pe_call (ok_law_wholeK T) (hr.mono (by omega)) (by rfl) T.g_law_wholeK T.k_law_wholeK T.b_law_wholeK .nil pass0 (pa_cons (pv 1) pa_nil))) (pw_and1 (pt_cmpR op_gt (pv 2) pe_int (nomark _))))) (pss_one (ps_ret (pe_op op_add (pv 1) (pe_ix ix_list (pe_lst (pa_cons pe_int (pa_cons (pe_op op_sub pe_int pe_int) (pa_cons pe_int (pa_cons (pe_op op_sub pe_int pe_int) (pa_cons pe_int (pa_cons (pe_op op_sub pe_int pe_int) (pa_cons pe_int pa_nil)))))))) (pe_op op_sub (pv 2) pe_int) (fun _ _ => rfl))))) pss_nil)
  (pss_cons (ps_if (PW.pt (pw_and (pt_val (pe_callB call_isi (by rfl) T.n_isinstance (by decide +kernel) (pa_cons (pv 1) (pa_cons (pe_bltn (by rfl) T.n_str (by decide +kernel) rfl) pa_nil)))) (pw_and1 (pt_cmpR op_gt (pv 2) pe_int (nomark _))))) (pss_one (ps_ret (pe_ix ix_list (pe_lst (pa_cons (pe_op op_addS (pv 1) pe_str) (pa_cons (pe_slice sl_str (pv 1) po_none (po_some (pe_un un_neg pe_int))) (pa_cons (pe_op op_addS (pe_slice sl_str (pv 1) (po_some pe_int) po_none) (pe_slice sl_str (pv 1) po_none (po_some pe_int))) (pa_cons (pe_op op_mulS (pv 1) pe_int) (pa_cons (pe_op op_addS pe_str (pv 1)) (pa_cons (pe_revS (pv 1)) pa_nil))))))) (pe_op op_sub (pv 2) pe_int) (fun _ _ => rfl)))) pss_nil)
  (pss_one (ps_ret (pe_call (ok_law7_odd T) (hr.mono (by omega)) (by rfl) T.g_law7_odd T.k_law7_odd T.b_law7_odd .nil pass0 (pa_cons (pv 0) pa_nil))))))))
theorem sc_law7_is_ring : FnScope ["_law_word", "_law_pairs_here", "_law_at"] ["_law_word", "_law_pairs_here"] (defScope st_law7_is_ring) := ⟨rfl, rfl, rfl, by decide +kernel, rfl, by decide +kernel, by decide +kernel⟩
theorem ok_law7_is_ring (T : Tx w K mg) : FnOk P w K mg base CX0 1 (He.ga K "_law_is_ring") (fdOf K (He.ga K "_law_is_ring")) ["_law_word", "_law_pairs_here"] (sp_law7_is_ring K) := by
  have sc := sc_law7_is_ring
  refine T.f_law7_is_ring.ok sc (fun vs H Q E h => ?_) (fun cdv A outer s H vs Q E hr h => ⟨t_law7_is_ring K, PSs.nox ?_, pure_law7_is_ring h⟩)
  · obtain ⟨_, _, rfl, _⟩ := h
    rfl
  · exact (pss_cons (ps_if (PW.pt (pw_or (pt_not (pt_val (pe_callB call_isi (by rfl) T.n_isinstance (by decide +kernel) (pa_cons (pv 0) (pa_cons (pe_bltn (by rfl) T.n_str (by decide +kernel) rfl) pa_nil))))) (pw_or1 (pt_cmpR op_eq (pv 0) pe_str (nomark _))))) (pss_one (ps_ret pe_bl)) pss_nil)
  (pss_one (ps_ret (pe_cmpR (op_eqD hr.units) (pe_lc (own := [("_law_at", 2)]) (g := gName 2) (by rfl) sc.nd (pi_range1 (by rfl) T.n_range (pa_cons (pe_callB call_len (by rfl) T.n_len (by decide +kernel) (pa_cons (pv 0) pa_nil)) pa_nil)) (blkOk_by (own := [("_law_at", 2)]) (by kernel_rfl)) (fun _ _ _ _ _ => pg_name (i := 2) sc.nd rfl (by first | exact Or.inl rfl | exact Or.inr rfl)) (fun _ _ _ _ _ => (pts_one (pt_cmpR op_notIn_seq (pe_op op_addS (pe_ix ix_str (pv 0) (pe_op op_sub (pv 2) pe_int) (fun _ _ => rfl)) (pe_ix ix_str (pv 0) (pv 2) (fun _ _ => rfl))) (pv 1) (by rfl)))) (fun _ _ _ _ _ => (pv 2))) (pe_lst pa_nil) (nomark _)))))
theorem sc_law7_turns : FnScope ["_law_one", "_law_other"] ["_law_one", "_law_other"] (defScope st_law7_turns) := ⟨rfl, rfl, rfl, by decide +kernel, rfl, by decide +kernel, by decide +kernel⟩
theorem ok_law7_turns (T : Tx w K mg) : FnOk P w K mg base CX0 1 (He.ga K "_law_turns") (fdOf K (He.ga K "_law_turns")) ["_law_one", "_law_other"] (sp_law7_turns K) := by
  have sc := sc_law7_turns
  refine T.f_law7_turns.ok sc (fun vs H Q E h => ?_) (fun cdv A outer s H vs Q E hr h => ⟨t_law7_turns K, PSs.nox ?_, pure_law7_turns h⟩)
  · obtain ⟨_, _, rfl, _⟩ := h
    rfl
  · exact (pss_cons (ps_if (PW.pt (pw_or (pt_not (pt_val (pe_callB call_isi (by rfl) T.n_isinstance (by decide +kernel) (pa_cons (pv 0) (pa_cons (pe_bltn (by rfl) T.n_str (by decide +kernel) rfl) pa_nil))))) (pw_or (pt_not (pt_val (pe_callB call_isi (by rfl) T.n_isinstance (by decide +kernel) (pa_cons (pv 1) (pa_cons (pe_bltn (by rfl) T.n_str (by decide +kernel) rfl) pa_nil))))) (pw_or1 (pt_cmpR op_ne (pe_callB call_len (by rfl) T.n_len (by decide +kernel) (pa_cons (pv 0) pa_nil)) (pe_callB call_len (by rfl) T.n_len (by decide +kernel) (pa_cons (pv 1) pa_nil)) (nomark _)))))) (pss_one (ps_ret pe_bl)) pss_nil)
  (pss_one (ps_ret (pe_and (pe_cmpR op_ne (pv 1) pe_str (nomark _)) (pe_one (pe_cmpR op_in_str (pv 1) (pe_op op_addS (pv 0) (pv 0)) (by rfl)))))))
theorem sc_law7_is_word : FnScope ["_law_thing", "_law_sign"] ["_law_thing"] (defScope st_law7_is_word) := ⟨rfl, rfl, rfl, by decide +kernel, rfl, by decide +kernel, by decide +kernel⟩
theorem ok_law7_is_word (T : Tx w K mg) : FnOk P w K mg base CX0 1 (He.ga K "_law_is_word") (fdOf K (He.ga K "_law_is_word")) ["_law_thing"] (sp_law7_is_word K) := by
  have sc := sc_law7_is_word
  refine T.f_law7_is_word.ok sc (fun vs H Q E h => ?_) (fun cdv A outer s H vs Q E hr h => ⟨t_law7_is_word K, PSs.nox ?_, pure_law7_is_word h⟩)
  · obtain ⟨_, rfl, _⟩ := h
    rfl
  · exact (pss_cons (ps_if (PW.pt (pw_or (pt_not (pt_val (pe_callB call_isi (by rfl) T.n_isinstance (by decide +kernel) (pa_cons (pv 0) (pa_cons (pe_bltn (by rfl) T.n_str (by decide +kernel) rfl) pa_nil))))) (pw_or1 (pt_not (pt_chain op_lt op_lt pe_int (pe_callB call_len (by rfl) T.n_len (by decide +kernel) (pa_cons (pv 0) pa_nil)) pe_int))))) (pss_one (ps_ret pe_bl)) pss_nil)
  (pss_one (ps_ret (pe_cmpR (op_eqD hr.units) (pe_lc (own := [("_law_sign", 1)]) (g := gName 1) (by rfl) sc.nd (pi_str (pv 0)) (blkOk_by (own := [("_law_sign", 1)]) (by kernel_rfl)) (fun _ _ _ _ _ => pg_name (i := 1) sc.nd rfl (by first | exact Or.inl rfl | exact Or.inr rfl)) (fun _ _ _ _ _ => (pts_one (pt_cmpR op_notIn_sign (pv 1) pe_str (by rfl)))) (fun _ _ _ _ _ => (pv 1))) (pe_lst pa_nil) (nomark _)))))
theorem sc_law7_is_lap : FnScope ["_law_thing"] ["_law_thing"] (defScope st_law7_is_lap) := ⟨rfl, rfl, rfl, by decide +kernel, rfl, by decide +kernel, by decide +kernel⟩
theorem ok_law7_is_lap (T : Tx w K mg) : FnOk P w K mg base CX0 2 (He.ga K "_law_is_lap") (fdOf K (He.ga K "_law_is_lap")) ["_law_thing"] (sp_law7_is_lap K) := by
  have sc := sc_law7_is_lap
  refine T.f_law7_is_lap.ok sc (fun vs H Q E h => ?_) (fun cdv A outer s H vs Q E hr h => ⟨t_law7_is_lap K, PSs.nox ?_, pure_law7_is_lap h⟩)
  · obtain ⟨_, rfl, _⟩ := h
    rfl
  · exact (pss_one (ps_ret (pe_and (pe_call (ok_law_wholeK T) (hr.mono (by decide)) (by rfl) T.g_law_wholeK T.k_law_wholeK T.b_law_wholeK .nil pass0 (pa_cons (pv 0) pa_nil)) (pe_one (pe_chain op_lt op_lt pe_int (pv 0) pe_int)))))
theorem sc_law7_lap : FnScope ["_law_purse_here"] ["_law_purse_here"] (defScope st_law7_lap) := ⟨rfl, rfl, rfl, by decide +kernel, rfl, by decide +kernel, by decide +kernel⟩
theorem ok_law7_lap (T : Tx w K mg) : FnOk P w K mg base CX0 2 (He.ga K "_law_lap") (fdOf K (He.ga K "_law_lap")) ["_law_purse_here"] (sp_law7_lap K) := by
  have sc := sc_law7_lap
  refine T.f_law7_lap.ok sc (fun vs H Q E h => ?_) (fun cdv A outer s H vs Q E hr h => ⟨t_law7_lap K, PSs.nox ?_, pure_law7_lap h⟩)
  · obtain ⟨_, rfl, _⟩ := h
    rfl
  · exact (pss_one (ps_ret (pe_ix ix_list (pe_lst (pa_cons pe_int (pa_cons pe_int (pa_cons pe_int (pa_cons pe_int (pa_cons pe_int (pa_cons pe_int (pa_cons (pe_op op_add pe_int (pe_call (ok_law7_pick T) (hr.mono (by decide)) (by rfl) T.g_law7_pick T.k_law7_pick T.b_law7_pick .nil pass0 (pa_cons (pv 0) (pa_cons pe_int pa_nil)))) pa_nil)))))))) (pe_call (ok_law7_pick T) (hr.mono (by decide)) (by rfl) T.g_law7_pick T.k_law7_pick T.b_law7_pick .nil pass0 (pa_cons (pv 0) (pa_cons pe_int pa_nil))) (fun _ _ => rfl))))
theorem sc_law7_accepted : FnScope ["_law_claim_here", "_law_paper", "_law_due_here", "_law_told"] ["_law_claim_here", "_law_paper", "_law_due_here"] (defScope st_law7_accepted) := ⟨rfl, rfl, rfl, by decide +kernel, rfl, by decide +kernel, by decide +kernel⟩
theorem ok_law7_accepted (T : Tx w K mg) : FnOk P w K mg base CX0 9 (He.ga K "_law_accepted") (fdOf K (He.ga K "_law_accepted")) ["_law_claim_here", "_law_paper", "_law_due_here"] (sp_law7_accepted K w) := by
  have sc := sc_law7_accepted
  refine T.f_law7_accepted.ok sc (fun vs H Q E h => ?_) (fun cdv A outer s H vs Q E hr h => ⟨t_law7_accepted K w, PSs.nox ?_, pure_law7_accepted h⟩)
  · obtain ⟨_, _, _, rfl, _⟩ := h
    rfl
  · exact (pss_cons (ps_set (i := 3) sc.nd rfl (by first | exact Or.inl rfl | exact Or.inr rfl) (pe_call (ok_accepts T) (hr.mono (by decide)) (by rfl) T.g_accepts T.k_accepts T.b_accepts .nil pass0 (pa_cons (pv 0) (pa_cons (pv 1) pa_nil))))
  (pss_one (ps_ret (pe_and (pe_callB call_isi (by rfl) T.n_isinstance (by decide +kernel) (pa_cons (pv 3) (pa_cons (pe_bltn (by rfl) T.n_bool (by decide +kernel) rfl) pa_nil))) (pe_one (pe_cmpR op_eq (pv 3) (pv 2) (nomark _)))))))
theorem sc_law7_due : FnScope ["_law_model_here", "_law_pairs_here", "_law_rest", "_law_paper", "_law_one", "_law_other", "_law_lap_here"] ["_law_model_here", "_law_pairs_here", "_law_rest", "_law_paper"] (defScope st_law7_due) := ⟨rfl, rfl, rfl, by decide +kernel, rfl, by decide +kernel, by decide +kernel⟩
theorem ok_law7_due (T : Tx w K mg) : FnOk P w K mg base CX0 3 (He.ga K "_law_due") (fdOf K (He.ga K "_law_due")) ["_law_model_here", "_law_pairs_here", "_law_rest", "_law_paper"] (sp_law7_due K) := by
  have sc := sc_law7_due
  refine T.f_law7_due.ok sc (fun vs H Q E h => ?_) (fun cdv A outer s H vs Q E hr h => ⟨t_law7_due K, PSs.nox ?_, pure_law7_due h⟩)
  · obtain ⟨_, _, _, _, rfl, _⟩ := h
    rfl
  · exact (pss_cons (ps_if (PW.pt (pw_or (pt_not (pt_val (pe_callB call_isi (by rfl) T.n_isinstance (by decide +kernel) (pa_cons (pv 2) (pa_cons (pe_bltn (by rfl) T.n_tuple (by decide +kernel) rfl) pa_nil))))) (pw_or (pt_cmpR op_ne (pe_callB call_len (by rfl) T.n_len (by decide +kernel) (pa_cons (pv 2) pa_nil)) pe_int (nomark _)) (pw_or (pt_not (pt_val (pe_callB call_isi (by rfl) T.n_isinstance (by decide +kernel) (pa_cons (pv 3) (pa_cons (pe_bltn (by rfl) T.n_tuple (by decide +kernel) rfl) pa_nil))))) (pw_or1 (pt_cmpR op_gt (pe_callB call_len (by rfl) T.n_len (by decide +kernel) (pa_cons (pv 3) pa_nil)) pe_int (nomark _))))))) (pss_one (ps_ret pe_bl)) pss_nil)
  (pss_cons (ps_asg (pv 2) (pg_tup rfl (pgs_cons (pg_name (i := 4) sc.nd rfl (by first | exact Or.inl rfl | exact Or.inr rfl)) (pgs_cons (pg_name (i := 5) sc.nd rfl (by first | exact Or.inl rfl | exact Or.inr rfl)) (pgs_cons (pg_name (i := 6) sc.nd rfl (by first | exact Or.inl rfl | exact Or.inr rfl)) pgs_nil)))))
  (pss_cons (ps_if (PW.pt (pw_or (pt_not (pt_val (pe_call (ok_law7_is_word T) (hr.mono (by decide)) (by rfl) T.g_law7_is_word T.k_law7_is_word T.b_law7_is_word .nil pass0 (pa_cons (pv 4) pa_nil)))) (pw_or (pt_not (pt_val (pe_call (ok_law7_is_word T) (hr.mono (by decide)) (by rfl) T.g_law7_is_word T.k_law7_is_word T.b_law7_is_word .nil pass0 (pa_cons (pv 5) pa_nil)))) (pw_or1 (pt_not (pt_val (pe_call (ok_law7_is_lap T) (hr.mono (by decide)) (by rfl) T.g_law7_is_lap T.k_law7_is_lap T.b_law7_is_lap .nil pass0 (pa_cons (pv 6) pa_nil)))))))) (pss_one (ps_ret pe_bl)) pss_nil)
  (pss_cons (ps_if (PW.pt (pw_or (pt_not (pt_val (pe_call (ok_law7_turns T) (hr.mono (by decide)) (by rfl) T.g_law7_turns T.k_law7_turns T.b_law7_turns .nil pass0 (pa_cons (pv 4) (pa_cons (pv 5) pa_nil))))) (pw_or1 (pt_not (pt_val (pe_call (ok_law7_is_ring T) (hr.mono (by decide)) (by rfl) T.g_law7_is_ring T.k_law7_is_ring T.b_law7_is_ring .nil pass0 (pa_cons (pv 4) (pa_cons (pv 1) pa_nil)))))))) (pss_one (ps_ret pe_bl)) pss_nil)
  (pss_one (ps_ret (pe_cmpR (op_neD hr.units) (pe_call (ok_law7_answer T) (hr.mono (by decide)) (by rfl) T.g_law7_answer T.k_law7_answer T.b_law7_answer .nil pass0 (pa_cons (pv 0) (pa_cons (pv 4) (pa_cons (pv 6) pa_nil)))) (pe_call (ok_law7_answer T) (hr.mono (by decide)) (by rfl) T.g_law7_answer T.k_law7_answer T.b_law7_answer .nil pass0 (pa_cons (pv 0) (pa_cons (pv 5) (pa_cons (pv 6) pa_nil)))) (nomark _))))))))
theorem sc_law7_right : FnScope ["_law_purse_here", "_law_signs_here", "_law_pairs_here", "_law_model_here", "_law_rows", "_law_words_here", "_law_turn", "_law_one", "_law_at", "_law_claim_here", "_law_rest", "_law_paper"] ["_law_purse_here"] (defScope st_law7_right) := ⟨rfl, rfl, rfl, by decide +kernel, rfl, by decide +kernel, by decide +kernel⟩
theorem ok_law7_right (T : Tx w K mg) : FnOk P w K mg base CX0 10 (He.ga K "_law_right") (fdOf K (He.ga K "_law_right")) ["_law_purse_here"] (sp_law7_right K w) := by
  have sc := sc_law7_right
  refine T.f_law7_right.ok sc (fun vs H Q E h => ?_) (fun cdv A outer s H vs Q E hr h => ⟨t_law7_right K w, PSs.nox ?_, pure_law7_right h⟩)
  · obtain ⟨_, rfl, _⟩ := h
    rfl
  · exact (pss_cons (ps_set (i := 1) sc.nd rfl (by first | exact Or.inl rfl | exact Or.inr rfl) (pe_call (ok_law7_signs T) (hr.mono (by decide)) (by rfl) T.g_law7_signs T.k_law7_signs T.b_law7_signs .nil pass0 (pa_cons (pv 0) pa_nil)))
  (pss_cons (ps_par (by rfl) sc.nd rfl rfl (by decide) rfl rfl (pa_cons (pe_call (ok_law7_pairs T) (hr.mono (by decide)) (by rfl) T.g_law7_pairs T.k_law7_pairs T.b_law7_pairs .nil pass0 (pa_cons (pv 0) (pa_cons (pv 1) pa_nil))) (pa_cons (pe_call (ok_law7_model T) (hr.mono (by decide)) (by rfl) T.g_law7_model T.k_law7_model T.b_law7_model .nil pass0 (pa_cons (pv 0) (pa_cons (pe_call (ok_law7_wider T) (hr.mono (by decide)) (by rfl) T.g_law7_wider T.k_law7_wider T.b_law7_wider .nil pass0 (pa_cons (pv 0) (pa_cons (pv 1) pa_nil))) (pa_cons pe_int pa_nil)))) pa_nil)) (by rfl))
  (pss_cons (ps_par (by rfl) sc.nd rfl rfl (by decide) rfl rfl (pa_cons (pe_lst (pa_cons (pe_call (ok_law7_row T) (hr.mono (by decide)) (by rfl) T.g_law7_row T.k_law7_row T.b_law7_row .nil pass0 (pa_cons (pv 3) (pa_cons (pe_call (ok_law7_tags T) (hr.mono (by decide)) (by rfl) T.g_law7_tags T.k_law7_tags T.b_law7_tags .nil pass0 (pa_cons (pv 0) (pa_cons (pe_ix ix_tup (pv 3) pe_int (fun _ _ => rfl)) pa_nil))) pa_nil))) (pa_cons (pe_tup (pa_cons (pv 1) (pa_cons (pe_callTy call_tuple_of (by rfl) T.n_tuple (by decide +kernel) (pa_cons (pv 2) pa_nil)) pa_nil))) pa_nil))) (pa_cons (pe_call (ok_law7_words T) (hr.mono (by decide)) (by rfl) T.g_law7_words T.k_law7_words T.b_law7_words .nil pass0 (pa_cons (pv 1) (pa_cons (pv 2) (pa_cons pe_int pa_nil)))) pa_nil)) (by rfl))
  (pss_cons (ps_for PassesOwn.never rfl (pi_range1 (by rfl) T.n_range (pa_cons pe_int pa_nil)) (pg_name (i := 6) sc.nd rfl (by first | exact Or.inl rfl | exact Or.inr rfl)) (pss_cons (ps_set (i := 7) sc.nd rfl (by first | exact Or.inl rfl | exact Or.inr rfl) (pe_ifExp (pt_cmpR (op_neD hr.units) (pv 5) (pe_lst pa_nil) (nomark _)) (pe_ix ix_list (pv 5) (pe_call (ok_law7_pick T) (hr.mono (by decide)) (by rfl) T.g_law7_pick T.k_law7_pick T.b_law7_pick .nil pass0 (pa_cons (pv 0) (pa_cons (pe_callB call_len (by rfl) T.n_len (by decide +kernel) (pa_cons (pv 5) pa_nil)) pa_nil))) (fun _ _ => rfl)) (pe_op op_mulS (pv 1) pe_int)))
  (pss_cons (ps_if (pt_cmpR op_eq (pe_call (ok_law7_pick T) (hr.mono (by decide)) (by rfl) T.g_law7_pick T.k_law7_pick T.b_law7_pick .nil pass0 (pa_cons (pv 0) (pa_cons pe_int pa_nil))) pe_int (nomark _)) (pss_one (ps_set (i := 7) sc.nd rfl (by first | exact Or.inl rfl | exact Or.inr rfl) (pe_op op_mulS (pv 7) (pe_op op_add (pe_op op_fdiv pe_int (pe_callB call_len (by rfl) T.n_len (by decide +kernel) (pa_cons (pv 7) pa_nil))) (pe_call (ok_law7_pick T) (hr.mono (by decide)) (by rfl) T.g_law7_pick T.k_law7_pick T.b_law7_pick .nil pass0 (pa_cons (pv 0) (pa_cons pe_int pa_nil))))))) pss_nil)
  (pss_cons (ps_if (pt_cmpR op_eq (pe_call (ok_law7_pick T) (hr.mono (by decide)) (by rfl) T.g_law7_pick T.k_law7_pick T.b_law7_pick .nil pass0 (pa_cons (pv 0) (pa_cons pe_int pa_nil))) pe_int (nomark _)) (pss_one (ps_set (i := 7) sc.nd rfl (by first | exact Or.inl rfl | exact Or.inr rfl) (pe_op op_addS (pe_op op_addS (pv 7) (pe_ix ix_str (pv 1) (pe_call (ok_law7_pick T) (hr.mono (by decide)) (by rfl) T.g_law7_pick T.k_law7_pick T.b_law7_pick .nil pass0 (pa_cons (pv 0) (pa_cons (pe_callB call_len (by rfl) T.n_len (by decide +kernel) (pa_cons (pv 1) pa_nil)) pa_nil))) (fun _ _ => rfl))) (pe_slice sl_str pe_str po_none (po_some (pe_call (ok_law7_pick T) (hr.mono (by decide)) (by rfl) T.g_law7_pick T.k_law7_pick T.b_law7_pick .nil pass0 (pa_cons (pv 0) (pa_cons pe_int pa_nil)))))))) pss_nil)
  (pss_cons (ps_set (i := 8) sc.nd rfl (by first | exact Or.inl rfl | exact Or.inr rfl) (pe_call (ok_law7_pick T) (hr.mono (by decide)) (by rfl) T.g_law7_pick T.k_law7_pick T.b_law7_pick .nil pass0 (pa_cons (pv 0) (pa_cons (pe_callB call_len (by rfl) T.n_len (by decide +kernel) (pa_cons (pv 7) pa_nil)) pa_nil))))
  (pss_cons (ps_par (by rfl) sc.nd rfl rfl (by decide) rfl rfl (pa_cons (pe_tup (pa_cons (pv 7) (pa_cons (pe_op op_addS (pe_slice sl_str (pv 7) (po_some (pv 8)) po_none) (pe_slice sl_str (pv 7) po_none (po_some (pv 8)))) (pa_cons (pe_call (ok_law7_lap T) (hr.mono (by decide)) (by rfl) T.g_law7_lap T.k_law7_lap T.b_law7_lap .nil pass0 (pa_cons (pv 0) pa_nil)) pa_nil)))) (pa_cons (pe_tup pa_nil) pa_nil)) (by rfl))
  (pss_cons (ps_if (pt_cmpR op_eq (pe_call (ok_law7_pick T) (hr.mono (by decide)) (by rfl) T.g_law7_pick T.k_law7_pick T.b_law7_pick .nil pass0 (pa_cons (pv 0) (pa_cons pe_int pa_nil))) pe_int (nomark _)) (pss_one (ps_set (i := 10) sc.nd rfl (by first | exact Or.inl rfl | exact Or.inr rfl) (pe_call (ok_law7_bent T 3) (hr.mono (by decide)) (by rfl) T.g_law7_bent T.k_law7_bent T.b_law7_bent .nil pass0 (pa_cons (pv 0) (pa_cons (pv 10) pa_nil))))) pss_nil)
  (pss_cons (ps_if (pt_cmpR op_eq (pe_call (ok_law7_pick T) (hr.mono (by decide)) (by rfl) T.g_law7_pick T.k_law7_pick T.b_law7_pick .nil pass0 (pa_cons (pv 0) (pa_cons pe_int pa_nil))) pe_int (nomark _)) (pss_one (ps_set (i := 11) sc.nd rfl (by first | exact Or.inl rfl | exact Or.inr rfl) (pe_call (ok_law7_odd T) (hr.mono (by decide)) (by rfl) T.g_law7_odd T.k_law7_odd T.b_law7_odd .nil pass0 (pa_cons (pv 0) pa_nil)))) pss_nil)
  (pss_cons (ps_set (i := 9) sc.nd rfl (by first | exact Or.inl rfl | exact Or.inr rfl) (pe_op op_catA (pe_tup (pa_cons pe_str (pa_cons (pe_ix ix_list (pv 4) pe_int (fun _ _ => rfl)) (pa_cons (pe_ix ix_list (pv 4) pe_int (fun _ _ => rfl)) pa_nil)))) (pe_ifExp (pt_val (pe_callB call_isi (by rfl) T.n_isinstance (by decide +kernel) (pa_cons (pv 10) (pa_cons (pe_bltn (by rfl) T.n_tuple (by decide +kernel) rfl) pa_nil)))) (pv 10) (pe_tup (pa_cons (pv 10) pa_nil)))))
  (pss_one (ps_if (pt_not (pt_val (pe_call (ok_law7_accepted T) (hr.mono (by decide)) (by rfl) T.g_law7_accepted T.k_law7_accepted T.b_law7_accepted .nil pass0 (pa_cons (pv 9) (pa_cons (pv 11) (pa_cons (pe_call (ok_law7_due T) (hr.mono (by decide)) (by rfl) T.g_law7_due T.k_law7_due T.b_law7_due .nil pass0 (pa_cons (pv 3) (pa_cons (pv 2) (pa_cons (pv 10) (pa_cons (pv 11) pa_nil))))) pa_nil)))))) (pss_one (ps_ret pe_bl)) pss_nil)))))))))))
  (pss_one (ps_ret pe_bl))))))
theorem sc_law : FnScope ["_law_cells", "_law_k"] ["_law_cells"] (defScope st_law) := ⟨rfl, rfl, rfl, by decide +kernel, rfl, by decide +kernel, by decide +kernel⟩
theorem ok_law (T : Tx w K mg) : FnOk P w K mg base CX0 11 (He.ga K "law") (fdOf K (He.ga K "law")) ["_law_cells"] (sp_law K) := by
  have sc := sc_law
  refine T.f_law.ok sc (fun vs H Q E h => ?_) (fun cdv A outer s H vs Q E hr h => ⟨t_law K w, PSs.nox ?_, pure_law h⟩)
  · obtain ⟨_, _, rfl, _⟩ := h
    rfl
  · exact (pss_cons (ps_for PassesOwn.never rfl (pi_range1 (by rfl) T.n_range (pa_cons (pe_callB (call_max2 rfl) (by rfl) T.n_max (by decide +kernel) (pa_cons pe_int (pa_cons (pe_callB (call_min2 rfl) (by rfl) T.n_min (by decide +kernel) (pa_cons (pe_callB call_len (by rfl) T.n_len (by decide +kernel) (pa_cons (pv 0) pa_nil)) (pa_cons pe_int pa_nil))) pa_nil))) pa_nil)) (pg_name (i := 1) sc.nd rfl (by first | exact Or.inl rfl | exact Or.inr rfl)) (pss_one (ps_if (pt_not (pt_val (pe_call (ok_law7_right T) (hr.mono (by decide)) (by rfl) T.g_law7_right T.k_law7_right T.b_law7_right .nil pass0 (pa_cons (pe_call (ok_law7_purse T) (hr.mono (by decide)) (by rfl) T.g_law7_purse T.k_law7_purse T.b_law7_purse .nil pass0 (pa_cons (pe_call (ok_law7_cell T) (hr.mono (by decide)) (by rfl) T.g_law7_cell T.k_law7_cell T.b_law7_cell .nil pass0 (pa_cons (pv 0) (pa_cons (pv 1) pa_nil))) pa_nil)) pa_nil)))) (pss_one (ps_ret pe_bl)) pss_nil)))
  (pss_one (ps_ret pe_bl)))
end
end WB
namespace WB
open PySem PySem.Spec PyProof.Rows L2
theorem facts {P : Program} {w : World} {K : Fr'} {h : Heap} {mg : Str → Option Value} {f : Addr} (X : K.In h) (G : h.Ns mainGlobals mg) (hfa : mg ("law" : Str) = some (.ref f)) (c : SaysW fa fn ex K) (kd : TabsOk ts w K) :
    ∃ fd : FuncData, (∀ (s : Shared) (v : Value), BindsTo s fd ⟨[v], []⟩ [("_law_cells", v)]) ∧ ∀ base : Heap, K.In base → base.Ns mainGlobals mg → FnOk P w K mg base CX0 11 f fd ["_law_cells"] (sp_law K) := by
  have T : Tx w K mg := ⟨c, kd, h, X, G⟩
  have e := hfa.symm.trans T.g_law
  cases e
  have b := FunD.bindsA (ps := ["_law_cells"]) (kws := d_law.kws K) T.f_law fun _ _ _ _ _ _ us hl => match us, hl with | [_], _ => rfl
  exact ⟨_, fun s v => b s [v] rfl, fun base _ _ => ok_law T⟩
end WB
theorem PySem.Challenge.cw_wherebegun_k70_differences_judged_holds : PySem.Challenge.rw_wherebegun_k70_differences_judged.Holds := by
  refine WB.headF ?_
  intro P w K h mg f X G hfa c kd
  exact WB.facts X G hfa c kd
