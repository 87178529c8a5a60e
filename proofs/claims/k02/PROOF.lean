import PyProof.Rows.All
import PySem.Challenge.RW_foretell_k02_texts_and_bytes
import Wide.All
import OpenK.AllK
import Wide.FinOn
import KE.KStateDown
import KE.KExcPX
import KE.GoesComp
import HandS.ForSpec
import HandS.Comp
import HandS.Conv
import HandS.Iter
import HandS.Zip
import HandS.Text
import HandS.More
import HandS.Dict
import HandS.DictComp
import HandS.Wide
import HandS.WideBits
import HandS.Flow
import HandS.IsInst
import HandS.Steps
import HandS.Defaults
import HandS.CallSlots
import HandS.CallRecv
import HandS.TryOnly
import HandS.TryElse
import HandS.ExcIs
import HandS.ExcOwn
import HandS.New0
import HandS.WordsExc
import HandS.Head0
import HandS.Head1
import HandS.Head2
import HandS.HeadEnd
import HandS.HeadHook1
import HandS.HeadHook2
set_option Elab.async false
set_option linter.all false
set_option maxRecDepth 100000
set_option maxHeartbeats 4000000
namespace Fo
open PySem PySem.Spec PyProof.Rows L2
/-! Fo: one reading for each operator, whatever the kinds of its operands; steps of readings; calls by bundles. -/
abbrev St := L2.St
abbrev Ends := L2.Ends
theorem orOp {X : Cx} {f : Value → Value → Sem Value} {r r' : R2} (h : OpR X f r) (h' : OpR X f r') : OpR X f (fun x y H Q => r x y H Q ∨ r' x y H Q) := by
  intro pins s σ H x y v u Q I rx ry q
  rcases q with q | q
  · exact h pins s σ H x y v u Q I rx ry q
  · exact h' pins s σ H x y v u Q I rx ry q
theorem orCall {X : Cx} {f : Value} {r r' : List V → Hp → VK → Prop} (h : CallR X f r) (h' : CallR X f r') : CallR X f (fun xs H Q => r xs H Q ∨ r' xs H Q) := by
  intro pins s σ H xs us Q I rs q
  rcases q with q | q
  · exact h pins s σ H xs us Q I rs q
  · exact h' pins s σ H xs us Q I rs q
/-! ### operators -/
def iAdd : R2 := rI0 fun i j => .int (i + j)
def sAdd : R2 := fun x y H Q => ∃ i j, x = .str i ∧ y = .str j ∧ i.length + j.length ≤ sizeLine ∧ Q (.str (i ++ j)) H
def rPlus (K : PySem.W.Frag) : R2 := fun x y H Q => iAdd x y H Q ∨ (rCat x y H Q ∨ (sAdd x y H Q ∨ rCatT K x y H Q))
def rMinus : R2 := rI0 fun i j => .int (i - j)
def iMul : R2 := rI IntMulOk fun i j => .int (i * j)
def rTimes : R2 := fun x y H Q => iMul x y H Q ∨ rRep x y H Q
def rFloor : R2 := rI CDivW fun i j => .int (i / j)
def rRest : R2 := rI (fun _ j => 0 < j) fun i j => .int (i % j)
def rPow : R2 := rI CPow fun i j => .int (i ^ j.toNat)
def rLsh : R2 := rI CShl fun i j => .int (i * 2 ^ j.toNat)
def rRsh : R2 := rI (fun _ j => 0 ≤ j) fun i j => .int (i / 2 ^ j.toNat)
def rMask : R2 := fun x y H Q => ∃ (i : Int) (k : Nat), x = .int i ∧ y = .int (2 ^ k - 1) ∧ Q (.int (i % 2 ^ k)) H
def rNeg : V → Hp → VK → Prop := rU fun i => .int (-i)
def iLt : R2 := rI0 fun i j => .bl (decide (i < j))
def iLe : R2 := rI0 fun i j => .bl (decide (i ≤ j))
def iGt : R2 := rI0 fun i j => .bl (decide (j < i))
def iGe : R2 := rI0 fun i j => .bl (decide (j ≤ i))
def sLe : R2 := fun x y H Q => ∃ i j, x = .str i ∧ y = .str j ∧ Q (.bl (!decide (j.cps.toList < i.cps.toList))) H
def rLe : R2 := fun x y H Q => iLe x y H Q ∨ sLe x y H Q
def rSame (K : PySem.W.Frag) : R2 := fun x y H Q => rEq x y H Q ∨ rEqD K x y H Q
def rDiff (K : PySem.W.Frag) : R2 := fun x y H Q => rNe x y H Q ∨ rNeD K x y H Q
def rDiff2 (K : PySem.W.Frag) : R2 := fun x y H Q => rDiff K x y H Q ∨ rNeDA x y H Q
def rIsNo : R2 := fun x y H Q => y = .non ∧ Q (.bl (decide (x = .non))) H
def rNotNo : R2 := fun x y H Q => y = .non ∧ Q (.bl (!decide (x = .non))) H
def rAmong (K : PySem.W.Frag) : R2 := fun x y H Q => rIn K false x y H Q ∨ rInS x y H Q
def rNotAmong (K : PySem.W.Frag) : R2 := fun x y H Q => rIn K true x y H Q ∨ rNotInS x y H Q
section
variable {X : Cx}
theorem o_plus : OpR X (binaryOp .Add) (rPlus X.K) := orOp op_add (orOp op_cat (orOp op_add_str op_catT))
theorem o_minus : OpR X (binaryOp .Sub) rMinus := op_sub
theorem o_imul : OpR X (binaryOp .Mult) iMul := opI fun _ _ _ _ _ _ _ hc q => mul_int q hc
theorem o_times : OpR X (binaryOp .Mult) rTimes := orOp o_imul op_rep
theorem o_floor : OpR X (binaryOp .FloorDiv) rFloor := op_fdivW
theorem o_rest : OpR X (binaryOp .Mod) rRest := op_mod
theorem o_pow : OpR X (binaryOp .Pow) rPow := op_pow
theorem o_lsh : OpR X (binaryOp .LShift) rLsh := op_shlW
theorem o_rsh : OpR X (binaryOp .RShift) rRsh := op_shr
theorem o_mask : OpR X (binaryOp .BitAnd) rMask := op_andM
theorem o_neg : UnR X (unaryOp .USub) rNeg := un_neg
theorem o_lt : OpR X (compareOp .Lt) iLt := op_lt
theorem o_le : OpR X (compareOp .LtE) rLe := orOp op_le op_le_str
theorem o_gt : OpR X (compareOp .Gt) iGt := op_gt
theorem o_ge : OpR X (compareOp .GtE) iGe := op_ge
theorem o_same (hu : X.A.units + 64 < cLine) : OpR X (compareOp .Eq) (rSame X.K) := orOp op_eq (op_eqD hu)
theorem o_diff (hu : X.A.units + 64 < cLine) : OpR X (compareOp .NotEq) (rDiff X.K) := orOp op_ne (op_neD hu)
theorem o_diff2 (hu : X.A.units + 64 < cLine) : OpR X (compareOp .NotEq) (rDiff2 X.K) := orOp (o_diff hu) (op_ne_dictA (by omega))
theorem o_isno : OpR X (compareOp .Is) rIsNo := op_isN
theorem o_notno : OpR X (compareOp .IsNot) rNotNo := op_notN
theorem o_among : OpR X (compareOp .In) (rAmong X.K) := orOp op_in_seq op_inS
theorem o_notamong : OpR X (compareOp .NotIn) (rNotAmong X.K) := orOp op_notIn_seq op_notInS
end
/-! ### built-ins -/
def rLength (K : PySem.W.Frag) : List V → Hp → VK → Prop := fun xs H Q => ∃ x n, xs = [x] ∧ LenV K x H n ∧ Q (.int n) H
def rListOf (K : PySem.W.Frag) : List V → Hp → VK → Prop := fun xs H Q => ∃ p ys, xs = [.ref p] ∧ (SqL K H p ys ∨ SqT K H p ys) ∧ ∀ l, H l = none → Q (.ref l) (upd H l (.lst ys))
def rTupleOf (K : PySem.W.Frag) : List V → Hp → VK → Prop := fun xs H Q => ∃ p ys, xs = [.ref p] ∧ ((SqL K H p ys ∧ ∀ l, H l = none → Q (.ref l) (upd H l (.tup ys))) ∨ (SqT K H p ys ∧ Q (.ref p) H))
def rMax2 : List V → Hp → VK → Prop := fun xs H Q => ∃ i j, xs = [.int i, .int j] ∧ Q (.int (if j > i then j else i)) H
def rMin2 : List V → Hp → VK → Prop := fun xs H Q => ∃ i j, xs = [.int i, .int j] ∧ Q (.int (if j < i then j else i)) H
def rGreatest (K : PySem.W.Frag) : List V → Hp → VK → Prop := fun xs H Q => rMax2 xs H Q ∨ L2.rMax K xs H Q
def rLeast (K : PySem.W.Frag) : List V → Hp → VK → Prop := fun xs H Q => rMin2 xs H Q ∨ L2.rMin K xs H Q
def rInt1 : List V → Hp → VK → Prop := fun xs H Q => (∃ i, xs = [.int i] ∧ Q (.int i) H) ∨ ∃ k, xs = [.bl k] ∧ Q (.int (if k then 1 else 0)) H
def rIsi2 (K : PySem.W.Frag) : List V → Hp → VK → Prop := fun xs H Q => rIsi K xs H Q ∨ rIsiT K xs H Q
section
variable {X : Cx}
theorem c_len : CallR X (.builtin "len") (rLength X.K) := call_len
theorem c_list : CallR X (.type "list") (rListOf X.K) := call_list_of
theorem c_tuple : CallR X (.type "tuple") (rTupleOf X.K) := call_tuple_of
theorem c_max (hc : X.calm = true) : CallR X (.builtin "max") (rGreatest X.K) := orCall (call_max2 hc) (cr_max hc)
theorem c_min (hc : X.calm = true) : CallR X (.builtin "min") (rLeast X.K) := orCall (call_min2 hc) (cr_min hc)
theorem c_int : CallR X (.type "int") rInt1 := call_int1
theorem c_isi : CallR X (.builtin "isinstance") (rIsi2 X.K) := orCall call_isi call_isiT
theorem c_all (hc : X.calm = true) : CallR X (.builtin "all") (rAll X.K) := cr_all hc
theorem c_any (hc : X.calm = true) : CallR X (.builtin "any") (rAny X.K) := cr_any hc
theorem c_sum (hc : X.calm = true) : CallR X (.builtin "sum") (rSum X.K) := cr_sum hc
end
/-! ### truth of a value -/
theorem pt_tru {X : Cx} {a : Expr} {ta : TE} (ha : PE X a ta) (he : ∀ whole, isTrue a X.env whole = (do let v ← whole; standAt a.pos; holding [v] (truthy v)) := by intro _; rfl) : PT X a (tTru X.K ta) := pt_truth ha he
/-! Fo, calls: a def, a method, a class, each by a bundle of what its call needs; what is raised is wished for at the slots where the call stands. -/
/-- what is raised reaches those around, whatever the slots -/
def Out (X : Cx) (E : St → XK) : Prop := ∀ σ, PassesAt (L2.CX X.prog X.w) X σ (E σ)
theorem out_try {X : Cx} {W : WX} (tk : Takes X W) : Out X (WE W) := fun σ => passAt tk σ
theorem out_def {X : Cx} {E : XK} (tk : Takes X (fun cls d _ H => E cls d H)) : Out X (fun _ => E) := fun σ => passAt tk σ
/-- nothing is let out (a comprehension's block) -/
theorem out_none {X : Cx} : Out X (fun _ => E0) := fun _ _ _ _ _ _ _ h => by
  obtain ⟨_, _, _, _, _, _, _, _, _, _, _, _, z⟩ := h
  exact z.elim
/-- a def as it may be called: level, address, parameters, the defaults that fill up, promise -/
structure Cb (P : Program) (w : World) (K : PySem.W.Frag) (mg : Str → Option Value) (base : Heap) (k : Nat) (f : Addr) (ps : List Str) (dvs : List V) (sp : Sp) : Prop where
  ex : ∃ (fd : FuncData) (ds : List Value), FnOk P w K mg base (L2.CX P w) k f fd ps sp ∧ Binds K fd ps ds ∧ Vals dvs ds
  kp : PySem.W.keepIn K (.ref f) = true
abbrev CbX (X : Cx) (k : Nat) (f : Addr) (ps : List Str) (dvs : List V) (sp : Sp) : Prop := Cb X.prog X.w X.K X.mg X.base k f ps dvs sp
section
variable {X : Cx} {k : Nat} {f C : Addr} {ps : List Str} {sp : Sp} {dvs : List V} {E : St → XK} {x m : Str} {p pos apos : Pos} {e o : Expr} {es : List Expr} {ta : TE} {t : TA}
abbrev tFun : Sp → List V → (St → XK) → TA → TE := tCallSD
theorem pe_fun (B : CbX X k f ps dvs sp) (hr : Room k X.A) (hm : X.mg x = some (.ref f)) (hx : Out X E) (ha : PA X (e :: es) t) (hg : Gl X x := by rfl)
    (hdb : (x == ("__debug__" : Str)) = false := by decide) (he : starEach (e :: es) X.env = (false, eval e X.env) :: starEach es X.env := by rfl)
    (hpl : (backTo pos (starEach es X.env)).any (·.1) = false := by rfl) : PE X (.Call (.Name x p) (e :: es) [] pos) (tFun sp dvs E t) := by
  obtain ⟨fd, ds, F, hb, hd⟩ := B.ex
  exact pe_callSD F hr hg hm B.kp hb hd hx ha hdb he hpl
/-- o.m(..): ms tells of which classes the receiver may be, and each one's promise -/
def tMth (m : Str) (ms : Addr → Sp → Prop) (E : St → XK) (ta : TE) (t : TA) : TE := fun σ H Q =>
  ta σ H fun x H1 => ∃ a C dx fs sp, x = .ref a ∧ H1 a = some (.ins C dx fs) ∧ ms C sp ∧ fs.lookup m = none ∧ t σ H1 fun vs H2 => sp (x :: vs) H2 Q (E σ)
def one (C0 : Addr) (sp0 : Sp) : Addr → Sp → Prop := fun C sp => C = C0 ∧ sp = sp0
def oneD (C0 : Addr) (sp0 : Sp) (dvs : List V) : Addr → Sp → Prop := fun C sp => C = C0 ∧ sp = fun vs H Q E => sp0 (vs ++ dvs) H Q E
def orM (m1 m2 : Addr → Sp → Prop) : Addr → Sp → Prop := fun C sp => m1 C sp ∨ m2 C sp
/-- what is needed of each class -/
def MthOk (P : Program) (w : World) (K : PySem.W.Frag) (mg : Str → Option Value) (base : Heap) (k : Nat) (m : Str) (ms : Addr → Sp → Prop) : Prop :=
  ∀ C sp, ms C sp → Cls K C ∧ ∃ (f : Addr) (ps : List Str) (dvs : List V) (sp' : Sp), Meth K C m f ∧ Cb P w K mg base k f ps dvs sp' ∧ ∀ vs H Q E, sp vs H Q E → sp' (vs ++ dvs) H Q E
theorem mo_one {P : Program} {w : World} {K : PySem.W.Frag} {mg : Str → Option Value} {base : Heap} (c : Cls K C) (hm : Meth K C m f) {j : Nat} (B : Cb P w K mg base j f ps [] sp) (hj : j ≤ k) : MthOk P w K mg base k m (one C sp) := by
  rintro C' sp' ⟨rfl, rfl⟩
  obtain ⟨⟨fd, ds, F, r⟩, kp⟩ := B
  exact ⟨c, f, ps, [], sp', hm, ⟨⟨fd, ds, F.mono hj, r⟩, kp⟩, fun vs H Q E h => by rw [List.append_nil]; exact h⟩
theorem mo_oneD {P : Program} {w : World} {K : PySem.W.Frag} {mg : Str → Option Value} {base : Heap} (c : Cls K C) (hm : Meth K C m f) {j : Nat} (B : Cb P w K mg base j f ps dvs sp) (hj : j ≤ k) : MthOk P w K mg base k m (oneD C sp dvs) := by
  rintro C' sp' ⟨rfl, rfl⟩
  obtain ⟨⟨fd, ds, F, r⟩, kp⟩ := B
  exact ⟨c, f, ps, dvs, sp, hm, ⟨⟨fd, ds, F.mono hj, r⟩, kp⟩, fun vs H Q E h => h⟩
theorem mo_or {P : Program} {w : World} {K : PySem.W.Frag} {mg : Str → Option Value} {base : Heap} {m1 m2 : Addr → Sp → Prop} (h1 : MthOk P w K mg base k m m1) (h2 : MthOk P w K mg base k m m2) : MthOk P w K mg base k m (orM m1 m2) := fun C sp h => h.elim (h1 C sp) (h2 C sp)
abbrev MForm (m : Str) (o : Expr) (es : List Expr) (apos pos : Pos) (env : Env) (pl : Sem Bool) : Prop :=
  eval (.Call (.Attribute o m apos) es [] pos) env = (do
    let ov ← eval o env
    standAt apos.atName
    let (g, first) ← holding [ov] (getMethod ov m pl)
    callWith pos g first (backTo pos (starEach es env)) (backToKw pos (keywordEach [] env)))
theorem pe_mth {pl : Sem Bool} {ms : Addr → Sp → Prop} (he : PE X o ta) (M : MthOk X.prog X.w X.K X.mg X.base k m ms) (hr : Room k X.A) (hx : Out X E) (ha : PA X (e :: es) t)
    (hst : starEach (e :: es) X.env = (false, eval e X.env) :: starEach es X.env := by rfl) (hpl : (backTo pos (starEach es X.env)).any (·.1) = false := by rfl)
    (ht : MForm m o (e :: es) apos pos X.env pl := by rfl) : PE X (.Call (.Attribute o m apos) (e :: es) [] pos) (tMth m ms E ta t) := by
  refine ⟨fun pins s σ H Q I h => ?_⟩
  refine PySem.W.methodCall_KW (pl := pl) (thn (he.run pins s σ H _ I h) fun u s1 hh => ?_) ht
  obtain ⟨y, H1, I1, ry, a, C, dx, fs, sp, ey, ea, hC, l, q⟩ := hh
  obtain ⟨c, f, ps, dvs, sp', hm, B, imp⟩ := M C sp hC
  obtain ⟨fd, ds, F, hb, hd⟩ := B.ex
  subst ey
  obtain rfl : u = Value.ref a := ry
  refine getmeth_ok I1 ea c hm l ?_
  refine PySem.W.callWith_K (first := [.ref a]) (h₀ := X.base) I.ok.mod.kin hm.kp (thn (ha.run pos pins s1 σ H1 _ I1 q) fun us s2 hh => ?_) hst hpl
  obtain ⟨vs, H2, I2, r, q2⟩ := hh
  exact ⟨I2.kIn, run_fnSD (us := .ref a :: us) (vs := .ref a :: vs) F hr hb hd (hx σ) I2 (.cons rfl r) (imp _ _ _ _ q2)⟩
theorem pe_mth0 {pl : Sem Bool} {ms : Addr → Sp → Prop} (he : PE X o ta) (M : MthOk X.prog X.w X.K X.mg X.base k m ms) (hr : Room k X.A) (hx : Out X E)
    (ht : MForm m o [] apos pos X.env pl := by rfl) : PE X (.Call (.Attribute o m apos) [] [] pos) (tMth m ms E ta tNil) := by
  refine ⟨fun pins s σ H Q I h => ?_⟩
  refine PySem.W.methodCall_KW (pl := pl) (thn (he.run pins s σ H _ I h) fun u s1 hh => ?_) ht
  obtain ⟨y, H1, I1, ry, a, C, dx, fs, sp, ey, ea, hC, l, q⟩ := hh
  obtain ⟨c, f, ps, dvs, sp', hm, B, imp⟩ := M C sp hC
  obtain ⟨fd, ds, F, hb, hd⟩ := B.ex
  subst ey
  obtain rfl : u = Value.ref a := ry
  refine getmeth_ok I1 ea c hm l ?_
  exact PySem.W.callWith_K0 (first := [.ref a]) I1.kIn hm.kp (run_fnSD (us := [.ref a]) (vs := [.ref a]) F hr hb hd (hx σ) I1 (.cons rfl .nil) (imp _ _ _ _ q))
/-- C(..): the new instance x and its dict dx, then __init__ -/
def tNew (C : Addr) (sp : Sp) (dvs : List V) (E : St → XK) (t : TA) : TE := fun σ H Q => t σ H fun vs H1 => ∀ x dx, H1 x = none → H1 dx = none → dx ≠ x →
  sp (.ref x :: (vs ++ dvs)) (upd (upd H1 dx (.own x)) x (.ins C dx [])) (fun v H2 => v = .non ∧ Q (.ref x) H2) (E σ)
theorem run_new {pins : List (Addr × Obj)} {σ : St} {H : Hp} {s : Shared} {Q : VK} {us : List Value} {vs : List V} (M : Mk X.K C f) (B : CbX X k f ps dvs sp) (hr : Room (k + 1) X.A) (hx : Out X E) (I : Inv X pins σ H s) (r : Vals vs us)
    (h : ∀ x dx, H x = none → H dx = none → dx ≠ x → sp (.ref x :: (vs ++ dvs)) (upd (upd H dx (.own x)) x (.ins C dx [])) (fun v H2 => v = .non ∧ Q (.ref x) H2) (E σ)) :
    wpAny (model X.prog X.w) X.A (call (.ref C) us) (EP X pins σ Q) X.xe s := by
  obtain ⟨fd, ds, F, hb, hd⟩ := B.ex
  have n1 := I.hok.fresh (Nat.le_succ s.heap.objs.size)
  have n2 := I.hok.fresh (Nat.le_refl s.heap.objs.size)
  have hq := h (s.heap.objs.size + 1) s.heap.objs.size n1 n2 (Nat.ne_of_lt (Nat.lt_succ_self _))
  have I2 := Inv.made (C := C) I
  have r2 : Vals (V.ref (s.heap.objs.size + 1) :: (vs ++ dvs)) (Value.ref (s.heap.objs.size + 1) :: (us ++ ds)) := .cons rfl (r.append hd)
  have hl : (Value.ref (s.heap.objs.size + 1) :: us ++ ds).length = ps.length := r2.length.symm.trans (F.len _ _ _ _ hq)
  have go := F.run _ X.stack _ _ ⟨Value.ref (s.heap.objs.size + 1) :: us, []⟩ _ _ _ (E σ) (hr.make C us []) (I2.env0.make C us []) (hb _ (Value.ref (s.heap.objs.size + 1) :: us) I2.kIn hl) r2 hq
  refine wpAny_call (make_map (f := f) I.kIn M.makes M.init (beq_iff_eq.mp M.fn) (codeAny_mono go fun res s' hq' => ?_))
  match res, hq' with
  | .error er, hq' => exact hx σ pins _ _ er s' I2 hq'
  | .ok (.ret u), hq' =>
    obtain ⟨rv, H', I3, rel, ev, q3⟩ := I2.after hq'
    subst ev
    exact ⟨rel, ⟨V.ref (s.heap.objs.size + 1), H', I3, rfl, q3⟩⟩
  | .ok .next, hq' => exact False.elim hq'
  | .ok .brk, hq' => exact False.elim hq'
  | .ok .cont, hq' => exact False.elim hq'
theorem pe_new (M : Mk X.K C f) (B : CbX X k f ps dvs sp) (hr : Room (k + 1) X.A) (hm : X.mg x = some (.ref C)) (hx : Out X E) (ha : PA X (e :: es) t) (hg : Gl X x := by rfl)
    (hdb : (x == ("__debug__" : Str)) = false := by decide) (he : starEach (e :: es) X.env = (false, eval e X.env) :: starEach es X.env := by rfl)
    (hpl : (backTo pos (starEach es X.env)).any (·.1) = false := by rfl) : PE X (.Call (.Name x p) (e :: es) [] pos) (tNew C sp dvs E t) := by
  refine ⟨fun pins s σ H Q I h => ?_⟩
  refine wpAny_Call_Name_kw (ld_glob I hg hm ?_ hdb)
  refine PySem.W.callWith_K (h₀ := X.base) I.ok.mod.kin M.kp (thn (ha.run pos pins s σ H _ I h) fun us s1 hh => ?_) he hpl
  obtain ⟨vs, H1, I1, r, q⟩ := hh
  exact ⟨I1.kIn, run_new M B hr hx I1 r q⟩
theorem pe_new0 (M : Mk X.K C f) (B : CbX X k f ps dvs sp) (hr : Room (k + 1) X.A) (hm : X.mg x = some (.ref C)) (hx : Out X E) (hg : Gl X x := by rfl)
    (hdb : (x == ("__debug__" : Str)) = false := by decide) : PE X (.Call (.Name x p) [] [] pos) (tNew C sp dvs E tNil) := by
  refine ⟨fun pins s σ H Q I h => ?_⟩
  refine wpAny_Call_Name_kw (ld_glob I hg hm ?_ hdb)
  exact PySem.W.callWith_K0 I.kIn M.kp (run_new (us := []) M B hr hx I .nil h)
end
/-- an own class of exceptions -/
structure Exn (K : PySem.W.Frag) (mg : Str → Option Value) (x : Str) (C : Addr) : Prop where
  g : mg x = some (.ref C)
  ok : PySem.W.excIn K C He.veBase "ValueError.__new__" = true
  kp : PySem.W.keepIn K (.ref C) = true
  sub : PySem.W.subIn K (.ref C) (.type "BaseException") = some true
  ty : PySem.W.typeIn K (.ref C) = some (.type "type")
section
variable {X : Cx} {C : Addr} {W : WX} {x m : Str} {j : Nat} {p p2 pos pos2 : Pos}
/-- raise C('m') -/
def tRz (W : WX) (C : Addr) : TS := fun _ σ H => W (.ref C) none σ H
theorem ps_rz (N : Exn X.K X.mg x C) (hc : X.calm = true) (tk : Takes X W) (hg : Gl X x := by rfl) (hdb : (x == ("__debug__" : Str)) = false := by decide) :
    PS X (.Raise (some (.Call (.Name x p) [.Constant (.str m) j p2] [] pos)) none pos2) (tRz W C) :=
  ps_raise hc tk (pmk_own PySem.F.excBase_ValueError N.ok N.g N.kp (raises_own N.sub N.ty) hg hdb)
end
/-! ### globals as values -/
section
variable {X : Cx} {x : Str} {pos : Pos}
theorem pe_gint {i : Int} (hm : ∃ t, X.mg x = some (.int i t)) (hg : Gl X x := by rfl) (hd : (x == ("__debug__" : Str)) = false := by decide) : PE X (.Name x pos) (tC (.int i)) := by
  obtain ⟨t, hm⟩ := hm
  exact pe_glob hg hm ⟨t, rfl⟩ hd
theorem pe_gstr {z : Str} (hm : ∃ t, X.mg x = some (.str z t)) (hg : Gl X x := by rfl) (hd : (x == ("__debug__" : Str)) = false := by decide) : PE X (.Name x pos) (tC (.str z)) := by
  obtain ⟨t, hm⟩ := hm
  exact pe_glob hg hm ⟨t, rfl⟩ hd
theorem pe_gref {a : Addr} (hm : X.mg x = some (.ref a)) (hg : Gl X x := by rfl) (hd : (x == ("__debug__" : Str)) = false := by decide) : PE X (.Name x pos) (tC (.ref a)) := pe_glob hg hm rfl hd
theorem pe_gty {n : String} (hm : X.mg x = none) (hv : bootBuiltins x = some (.type n)) (hg : Gl X x := by rfl) (hn : x ≠ "__name__" := by decide) (hd : (x == ("__debug__" : Str)) = false := by decide) : PE X (.Name x pos) (tC (.ty n)) := pe_bltn hg hm hv rfl hn hd
end
/-! ### a def -/
section
variable {P : Program} {w : World} {K : PySem.W.Frag} {mg : Str → Option Value} {base : Heap} {x qual : Str} {st : Stmt} {f : Addr} {N ps : List Str} {k : Nat} {sp : Sp} {dvs : List V}
abbrev DefAt (K : PySem.W.Frag) (x qual : Str) (st : Stmt) (dvs : List V) (f : Addr) : Prop := ∃ fd, FunD K x qual (defArgs st) (defBody st) (defScope st) dvs [] f fd
abbrev cxD (P : Program) (w : World) (K : PySem.W.Frag) (mg : Str → Option Value) (base : Heap) (N : List Str) (qual : Str) (st : Stmt) (f : Addr) (cdv : Value) (A : Around) (outer : List Env) (s : Shared) (H : Hp) (E : XK) : Cx :=
  cxOf (L2.CX P w) P w K mg base N qual (defScope st) f cdv A outer s H E
theorem cxD_takes {cdv : Value} {A : Around} {outer : List Env} {s : Shared} {H : Hp} {E : XK} : Takes (cxD P w K mg base N qual st f cdv A outer s H E) (fun cls d _ H' => E cls d H') := takes_of rfl rfl rfl rfl
theorem cxD_passes {cdv : Value} {A : Around} {outer : List Env} {s : Shared} {H : Hp} {E : XK} : PassesOwn (model P w) (A.deeper (envOfC qual (defScope st) s.heap.objs.size f cdv)) (envOfC qual (defScope st) s.heap.objs.size f cdv) (cxD P w K mg base N qual st f cdv A outer s H E).xe :=
  passes_of (X := cxD P w K mg base N qual st f cdv A outer s H E) rfl
/-- a def without defaults, by its body's reading T -/
theorem cb_of {T : XK → TS} (F : DefAt K x qual st [] f) (S : FnScope N ps (defScope st)) (len : ∀ vs H Q E, sp vs H Q E → vs.length = ps.length)
    (hb : ∀ (kV doc pm : Value) (an : Option Addr) (cdv ct : Value) (us : List Value), us.length = ps.length → bindArgs (PySem.W.fnOf x qual (defArgs st) (defBody st) (defScope st) .none kV doc pm an cdv ct) ⟨us, []⟩ = pure (ps.zip us))
    (body : ∀ (cdv : Value) (A : Around) (outer : List Env) (s : Shared) (H : Hp) (E : XK), Room k (A.deeper (envOfC qual (defScope st) s.heap.objs.size f cdv)) → PSs (cxD P w K mg base N qual st f cdv A outer s H E) (defBody st) (T E))
    (read : ∀ vs H Q E, sp vs H Q E → T E { nx := fun _ H' => Q .non H', rt := Q } (start N vs) H) : Cb P w K mg base (k + 1) f ps [] sp := by
  obtain ⟨fd, F⟩ := F
  exact ⟨⟨fd, [], F.ok S len fun cdv A outer s H vs Q E hr h => ⟨T E, body cdv A outer s H E hr, read vs H Q E h⟩, F.bindsN hb, .nil⟩, F.kp⟩
theorem Cb.mono {j : Nat} (B : Cb P w K mg base j f ps dvs sp) (h : j ≤ k) : Cb P w K mg base k f ps dvs sp := by
  obtain ⟨⟨fd, ds, F, r⟩, kp⟩ := B
  exact ⟨⟨fd, ds, F.mono h, r⟩, kp⟩
theorem Cb.imp {sp' : Sp} (B : Cb P w K mg base k f ps dvs sp) (h : ∀ vs H Q E, sp' vs H Q E → sp vs H Q E) : Cb P w K mg base k f ps dvs sp' := by
  obtain ⟨⟨fd, ds, F, r⟩, kp⟩ := B
  exact ⟨⟨fd, ds, F.imp h, r⟩, kp⟩
end
/-! Fo, steps: one for each form of a reading; what is left is what the form asks. -/
/-! ### lists of slots -/
inductive SetR : St → Nat → Option V → St → Prop
  | zero {a x : Option V} {l : St} : SetR (a :: l) 0 x (x :: l)
  | succ {a x : Option V} {l l' : St} {i : Nat} : SetR l i x l' → SetR (a :: l) (i + 1) x (a :: l')
theorem SetR.eq {σ σ' : St} {i : Nat} {x : Option V} (h : SetR σ i x σ') : σ.set i x = σ' := by
  induction h with
  | zero => rfl
  | succ _ ih => rw [List.set_cons_succ, ih]
/-- n at the slots with v put in place i -/
def asgn (i : Nat) (n : St → Hp → Prop) (v : V) (σ : St) (H : Hp) : Prop := n (σ.set i (some v)) H
def lstK (vs : List V) (H : Hp) (Q : VK) : Prop := vs.length ≤ sizeLine ∧ ∀ p, H p = none → Q (.ref p) (upd H p (.lst vs))
def tupK (vs : List V) (H : Hp) (Q : VK) : Prop := vs.length ≤ sizeLine ∧ ∀ p, H p = none → Q (.ref p) (upd H p (.tup vs))
def fldK (K : PySem.W.Frag) (f : Str) (x : V) (H : Hp) (Q : VK) : Prop := ∃ a C dx fs v, x = .ref a ∧ H a = some (.ins C dx fs) ∧ Cls K C ∧ NoAttr K C f ∧ fs.lookup f = some v ∧ Q v H
def stoK (K : PySem.W.Frag) (f : Str) (y x : V) (H : Hp) (n : Hp → Prop) : Prop := ∃ a C dx fs, x = .ref a ∧ H a = some (.ins C dx fs) ∧ Cls K C ∧ NoAttr K C f ∧ fs.length < 1000 ∧ n (upd H a (.ins C dx (putF f y fs)))
section
variable {K : PySem.W.Frag} {σ σ' : St} {H H' : Hp} {Q : VK} {R : Bool → Hp → Prop} {S : List V → Hp → Prop} {te ta tb tc : TE} {t u : TS} {tt tu : TT} {tl : TA} {x y v : V} {i j : Int} {k b : Bool} {r r' : R2} {z z' : Str}
variable {n : St → Hp → Prop} {rt : VK} {bk ct : St → Hp → Prop} {m : Nat} {p q : Addr} {xs ys vs : List V}
/-! ### expressions -/
theorem g_var (h : σ[m]? = some (some v)) (q : Q v H) : tVar m σ H Q := ⟨v, h, q⟩
theorem g_c (q : Q v H) : tC v σ H Q := q
theorem g_op (q : ta σ H fun x H1 => tb σ H1 fun y H2 => r x y H2 Q) : tOp r ta tb σ H Q := q
theorem g_un {r : V → Hp → VK → Prop} (q : ta σ H fun x H1 => r x H1 Q) : tUn r ta σ H Q := q
theorem g_cb {r : List V → Hp → VK → Prop} (q : tl σ H fun vs H1 => r vs H1 Q) : tCB r tl σ H Q := q
theorem g_nil (q : S [] H) : tNil σ H S := q
theorem g_cons {tr : TA} (q : te σ H fun x H1 => tr σ H1 fun xs H2 => S (x :: xs) H2) : tCons te tr σ H S := q
theorem g_bm {T : String} {r : V → List V → Hp → VK → Prop} (q : te σ H fun x H1 => tyV K T x H1 ∧ tl σ H1 fun xs H2 => r x xs H2 Q) : tBM K T r te tl σ H Q := q
theorem g_bm0 {T : String} {r : V → List V → Hp → VK → Prop} (q : te σ H fun x H1 => tyV K T x H1 ∧ r x [] H1 Q) : tBM0 K T r te σ H Q := q
theorem g_lst (q : tl σ H fun vs H1 => lstK vs H1 Q) : tLst tl σ H Q := q
theorem g_tup (q : tl σ H fun vs H1 => tupK vs H1 Q) : tTup tl σ H Q := q
theorem g_fld {f : Str} (q : te σ H fun x H1 => fldK K f x H1 Q) : tFld K te f σ H Q := q
theorem g_fun {sp : Sp} {dvs : List V} {E : St → XK} (q : tl σ H fun vs H1 => sp (vs ++ dvs) H1 Q (E σ)) : tFun sp dvs E tl σ H Q := q
theorem g_new {C : Addr} {sp : Sp} {dvs : List V} {E : St → XK} (q : tl σ H fun vs H1 => ∀ x dx, H1 x = none → H1 dx = none → dx ≠ x → sp (.ref x :: (vs ++ dvs)) (upd (upd H1 dx (.own x)) x (.ins C dx [])) (fun v H2 => v = .non ∧ Q (.ref x) H2) (E σ)) :
    tNew C sp dvs E tl σ H Q := q
theorem g_mth {f : Str} {ms : Addr → Sp → Prop} {E : St → XK} (q : te σ H fun x H1 => ∃ a C dx fs sp, x = .ref a ∧ H1 a = some (.ins C dx fs) ∧ ms C sp ∧ fs.lookup f = none ∧ tl σ H1 fun vs H2 => sp (x :: vs) H2 Q (E σ)) : tMth f ms E te tl σ H Q := q
theorem g_andV (q : ta σ H fun x H1 => ∃ c, x = .bl c ∧ if c = true then tb σ H1 Q else Q (.bl false) H1) : tAndV ta tb σ H Q := q
theorem g_orV (q : ta σ H fun x H1 => ∃ c, x = .bl c ∧ if c = true then Q (.bl true) H1 else tb σ H1 Q) : tOrV ta tb σ H Q := q
theorem g_notV (q : te σ H fun x H1 => ∃ c, x = .bl c ∧ Q (.bl (!c)) H1) : tNotV te σ H Q := q
theorem g_chain (q : ta σ H fun x H1 => tb σ H1 fun y H2 => r x y H2 fun z H3 => ∃ k, z = .bl k ∧ if k = true then tc σ H3 fun w H4 => r' y w H4 Q else Q (.bl false) H3) : tChain r r' ta tb tc σ H Q := q
theorem g_sl {rr : V → Option Int → Option Int → Hp → VK → Prop} {to1 to2 : TO} (q : te σ H fun x H1 => to1 σ H1 fun a H2 => to2 σ H2 fun b H3 => rr x a b H3 Q) : tSl rr te to1 to2 σ H Q := q
theorem g_part {S : Option Int → Hp → Prop} (q : te σ H fun x H1 => ∃ i, x = .int i ∧ S (some i) H1) : tPart te σ H S := q
theorem g_nopart {S : Option Int → Hp → Prop} (q : S none H) : tNoPart σ H S := q
theorem g_bits (q : te σ H fun x H1 => ∃ i, x = .int i ∧ Q (.int (Builtin.Int.intBits i : Nat)) H1) : tBits te σ H Q := q
theorem g_dget (q : ta σ H fun x H1 => tb σ H1 fun y H2 => ∃ a v, x = .ref a ∧ DGet H2 a y (some v) ∧ Q v H2) : tDGet ta tb σ H Q := q
theorem g_din (q : ta σ H fun y H1 => tb σ H1 fun x H2 => ∃ a o, x = .ref a ∧ DGet H2 a y o ∧ Q (.bl o.isSome) H2) : tDIn ta tb σ H Q := q
theorem g_dnotin (q : ta σ H fun y H1 => tb σ H1 fun x H2 => ∃ a o, x = .ref a ∧ DGet H2 a y o ∧ Q (.bl (!o.isSome)) H2) : tDNotIn ta tb σ H Q := q
/-! ### values that are known -/
theorem g_int (q : ∀ w, w = i → ∃ j, V.int w = .int j ∧ Q (.int j) H) : ∃ j, V.int i = .int j ∧ Q (.int j) H := q i rfl
theorem g_eint {T : Int → Prop} (q : T i) : ∃ j, V.int i = .int j ∧ T j := ⟨i, rfl, q⟩
theorem g_ebl {T : Bool → Prop} (q : T b) : ∃ j, V.bl b = .bl j ∧ T j := ⟨b, rfl, q⟩
theorem g_plus (q : Q (.int (i + j)) H) : rPlus K (.int i) (.int j) H Q := .inl ⟨i, j, rfl, rfl, q⟩
theorem g_cat (hx : H p = some (.lst xs)) (hy : H m = some (.lst ys)) (hl : xs.length + ys.length ≤ sizeLine) (q : ∀ l, H l = none → Q (.ref l) (upd H l (.lst (xs ++ ys)))) : rPlus K (.ref p) (.ref m) H Q := .inr (.inl ⟨p, m, xs, ys, rfl, rfl, hx, hy, hl, q⟩)
theorem g_plusS (hl : z.length + z'.length ≤ sizeLine) (q : Q (.str (z ++ z')) H) : rPlus K (.str z) (.str z') H Q := .inr (.inr (.inl ⟨z, z', rfl, rfl, hl, q⟩))
theorem g_minus (q : Q (.int (i - j)) H) : rMinus (.int i) (.int j) H Q := ⟨i, j, rfl, rfl, q⟩
theorem g_times (h : IntMulOk i j) (q : Q (.int (i * j)) H) : rTimes (.int i) (.int j) H Q := .inl ⟨i, j, rfl, rfl, h, q⟩
theorem g_rep (hx : H p = some (.lst xs)) (h1 : -(2 ^ 63) ≤ i) (h2 : i < 2 ^ 63) (hl : xs.length * i.toNat ≤ sizeLine) (q : ∀ l, H l = none → Q (.ref l) (upd H l (.lst (List.replicate i.toNat xs).flatten))) : rTimes (.ref p) (.int i) H Q :=
  .inr ⟨p, i, xs, rfl, rfl, hx, h1, h2, hl, q⟩
theorem g_floor (h : CDivW i j) (q : Q (.int (i / j)) H) : rFloor (.int i) (.int j) H Q := ⟨i, j, rfl, rfl, h, q⟩
theorem g_rest (h : 0 < j) (q : Q (.int (i % j)) H) : rRest (.int i) (.int j) H Q := ⟨i, j, rfl, rfl, h, q⟩
theorem g_pow (h : CPow i j) (q : Q (.int (i ^ j.toNat)) H) : L2.rI CPow (fun i j => .int (i ^ j.toNat)) (.int i) (.int j) H Q := ⟨i, j, rfl, rfl, h, q⟩
theorem g_lsh (h : CShl i j) (q : Q (.int (i * 2 ^ j.toNat)) H) : rLsh (.int i) (.int j) H Q := ⟨i, j, rfl, rfl, h, q⟩
theorem g_rsh (h : 0 ≤ j) (q : Q (.int (i / 2 ^ j.toNat)) H) : rRsh (.int i) (.int j) H Q := ⟨i, j, rfl, rfl, h, q⟩
theorem g_neg (q : Q (.int (-i)) H) : rNeg (.int i) H Q := ⟨i, rfl, q⟩
theorem g_lt (q : Q (.bl (decide (i < j))) H) : iLt (.int i) (.int j) H Q := ⟨i, j, rfl, rfl, q⟩
theorem g_le (q : Q (.bl (decide (i ≤ j))) H) : rLe (.int i) (.int j) H Q := .inl ⟨i, j, rfl, rfl, q⟩
theorem g_leS (q : Q (.bl (!decide (z'.cps.toList < z.cps.toList))) H) : rLe (.str z) (.str z') H Q := .inr ⟨z, z', rfl, rfl, q⟩
theorem g_gt (q : Q (.bl (decide (j < i))) H) : iGt (.int i) (.int j) H Q := ⟨i, j, rfl, rfl, q⟩
theorem g_ge (q : Q (.bl (decide (j ≤ i))) H) : iGe (.int i) (.int j) H Q := ⟨i, j, rfl, rfl, q⟩
theorem dec_int (i j : Int) : decide (V.int i = V.int j) = decide (i = j) := by
  by_cases h : i = j
  · rw [decide_eq_true h, decide_eq_true (by rw [h])]
  · rw [decide_eq_false h, decide_eq_false (fun e => h (V.int.inj e))]
theorem dec_str (i j : Str) : decide (V.str i = V.str j) = decide (i = j) := by
  by_cases h : i = j
  · rw [decide_eq_true h, decide_eq_true (by rw [h])]
  · rw [decide_eq_false h, decide_eq_false (fun e => h (V.str.inj e))]
theorem g_same (q : Q (.bl (decide (i = j))) H) : rSame K (.int i) (.int j) H Q := .inl ⟨rfl, by rw [dec_int]; exact q⟩
theorem g_diff (q : Q (.bl (!decide (i = j))) H) : rDiff K (.int i) (.int j) H Q := .inl ⟨rfl, by rw [dec_int]; exact q⟩
theorem g_sameS (q : Q (.bl (decide (z = z'))) H) : rSame K (.str z) (.str z') H Q := .inl ⟨rfl, by rw [dec_str]; exact q⟩
theorem g_diffS (q : Q (.bl (!decide (z = z'))) H) : rDiff K (.str z) (.str z') H Q := .inl ⟨rfl, by rw [dec_str]; exact q⟩
theorem g_isno (q : Q (.bl (decide (x = .non))) H) : rIsNo x .non H Q := ⟨rfl, q⟩
theorem g_notno (q : Q (.bl (!decide (x = .non))) H) : rNotNo x .non H Q := ⟨rfl, q⟩
theorem g_lenL (h : SqL K H p xs) (q : Q (.int (xs.length : Int)) H) : rLength K [.ref p] H Q := ⟨.ref p, xs.length, rfl, .inl ⟨xs, h, rfl⟩, q⟩
theorem g_lenT (h : SqT K H p xs) (q : Q (.int (xs.length : Int)) H) : rLength K [.ref p] H Q := ⟨.ref p, xs.length, rfl, .inr ⟨xs, h, rfl⟩, q⟩
theorem g_lenS (h : z.length ≤ sizeLine) (q : Q (.int (z.length : Int)) H) : rLength K [.str z] H Q := ⟨.str z, z.length, rfl, ⟨h, rfl⟩, q⟩
theorem g_listL (h : SqL K H p xs) (q : ∀ l, H l = none → Q (.ref l) (upd H l (.lst xs))) : rListOf K [.ref p] H Q := ⟨p, xs, rfl, .inl h, q⟩
theorem g_listT (h : SqT K H p xs) (q : ∀ l, H l = none → Q (.ref l) (upd H l (.lst xs))) : rListOf K [.ref p] H Q := ⟨p, xs, rfl, .inr h, q⟩
theorem g_tupleL (h : SqL K H p xs) (q : ∀ l, H l = none → Q (.ref l) (upd H l (.tup xs))) : rTupleOf K [.ref p] H Q := ⟨p, xs, rfl, .inl ⟨h, q⟩⟩
theorem g_max2 (q : Q (.int (if j > i then j else i)) H) : rGreatest K [.int i, .int j] H Q := .inl ⟨i, j, rfl, q⟩
theorem g_min2 (q : Q (.int (if j < i then j else i)) H) : rLeast K [.int i, .int j] H Q := .inl ⟨i, j, rfl, q⟩
theorem g_intI (q : Q (.int i) H) : rInt1 [.int i] H Q := .inl ⟨i, rfl, q⟩
theorem g_intB (q : Q (.int (if b then 1 else 0)) H) : rInt1 [.bl b] H Q := .inr ⟨b, rfl, q⟩
theorem g_all {bs : List Bool} (h : SqL K H p (bs.map V.bl)) (q : Q (.bl (bs.all id)) H) : rAll K [.ref p] H Q := ⟨p, bs, rfl, h, q⟩
theorem g_any {bs : List Bool} (h : SqL K H p (bs.map V.bl)) (q : Q (.bl (bs.any id)) H) : rAny K [.ref p] H Q := ⟨p, bs, rfl, h, q⟩
theorem g_sum {ns : List Int} (h : SqL K H p (ns.map V.int)) (q : Q (.int ns.sum) H) : rSum K [.ref p] H Q := ⟨p, ns, rfl, h, q⟩
theorem g_ixL (h : SqL K H p xs) (ha : atI xs i = some v) (q : Q v H) : rIx K (.ref p) (.int i) H Q := .inl ⟨p, xs, i, v, rfl, rfl, h, ha, q⟩
theorem g_ixT (h : SqT K H p xs) (ha : atI xs i = some v) (q : Q v H) : rIx K (.ref p) (.int i) H Q := .inr (.inl ⟨p, xs, i, v, rfl, rfl, h, ha, q⟩)
theorem g_ixS {c : Nat} (hl : z.length ≤ sizeLine) (ha : atI z.cps.toList i = some c) (q : Q (.str ⟨#[c]⟩) H) : rIx K (.str z) (.int i) H Q := .inr (.inr ⟨z, i, c, rfl, rfl, hl, ha, q⟩)
theorem g_slL {lo hi : Option Int} (h : SqL K H p xs) (q : ∀ l, H l = none → Q (.ref l) (upd H l (.lst (cutV xs lo hi)))) : rSlL K (.ref p) lo hi H Q := ⟨p, xs, rfl, h, q⟩
theorem g_isi {s : Str} {tn cn : String} (ht : TyX K H x (.type tn)) (hk : kitB tn cn = some b) (q : Q (.bl b) H) : rIsi2 K [x, .ty cn] H Q := .inl ⟨x, .ty cn, .type tn, .type cn, b, rfl, .ty cn, ht, kit_ty hk, q⟩
theorem g_append (h : H p = some (.lst xs)) (hl : xs.length < sizeLine) (q : Q .non (upd H p (.lst (xs ++ [y])))) : rAppend (.ref p) [y] H Q := ⟨p, xs, y, rfl, rfl, h, hl, q⟩
theorem g_reverse (h : H p = some (.lst xs)) (q : Q .non (upd H p (.lst xs.reverse))) : rReverse (.ref p) [] H Q := ⟨p, xs, rfl, rfl, h, q⟩
theorem g_clear (h : H p = some (.lst xs)) (q : Q .non (upd H p (.lst []))) : rClear (.ref p) [] H Q := ⟨p, xs, rfl, rfl, h, q⟩
theorem g_tyL {A : Prop} (h : SqL K H p xs) (q : A) : tyV K "list" (.ref p) H ∧ A := ⟨.inl ⟨rfl, xs, h⟩, q⟩
theorem g_tyS {A : Prop} (q : A) : tyV K "str" (.str z) H ∧ A := ⟨rfl, q⟩
theorem g_lstK (hl : vs.length ≤ sizeLine) (q : ∀ p, H p = none → Q (.ref p) (upd H p (.lst vs))) : lstK vs H Q := ⟨hl, q⟩
theorem g_tupK (hl : vs.length ≤ sizeLine) (q : ∀ p, H p = none → Q (.ref p) (upd H p (.tup vs))) : tupK vs H Q := ⟨hl, q⟩
theorem g_fldK {f : Str} {C dx : Addr} {fs : List (Str × V)} (h : H p = some (.ins C dx fs)) (c : Cls K C) (na : NoAttr K C f) (hl : fs.lookup f = some v) (q : Q v H) : fldK K f (.ref p) H Q := ⟨p, C, dx, fs, v, rfl, h, c, na, hl, q⟩
theorem g_stoK {f : Str} {C dx : Addr} {fs : List (Str × V)} {n : Hp → Prop} (h : H p = some (.ins C dx fs)) (c : Cls K C) (na : NoAttr K C f) (hl : fs.length < 1000) (q : n (upd H p (.ins C dx (putF f y fs)))) : stoK K f y (.ref p) H n := ⟨p, C, dx, fs, rfl, h, c, na, hl, q⟩
/-! ### tests -/
theorem g_test (q : te σ H fun x H1 => ∃ c, x = .bl c ∧ R c H1) : tTest te σ H R := q
theorem g_B (q : te σ H fun x H1 => ∃ c, x = .bl c ∧ R c H1) : tB te σ H R := q
theorem g_tru (q : te σ H fun x H1 => ∃ c, TruV K x H1 c ∧ R c H1) : tTru K te σ H R := q
theorem g_truB {T : Bool → Prop} (q : T b) : ∃ c, TruV K (.bl b) H c ∧ T c := ⟨b, rfl, q⟩
theorem g_and (q : tt σ H fun c H1 => if c = true then tu σ H1 R else R false H1) : tAnd tt tu σ H R := q
theorem g_or (q : tt σ H fun c H1 => if c = true then R true H1 else tu σ H1 R) : tOr tt tu σ H R := q
theorem g_not (q : tt σ H fun c H1 => R (!c) H1) : tNot tt σ H R := q
theorem g_ifT {A B : Prop} (q : A) : if true = true then A else B := iteT q
theorem g_ifF {A B : Prop} (q : B) : if false = true then A else B := iteF q
theorem g_ifNT {A B : Prop} (q : B) : if (!true) = true then A else B := iteF q
theorem g_ifNF {A B : Prop} (q : A) : if (!false) = true then A else B := iteT q
theorem dif {c A B : Prop} [Decidable c] (h1 : c → A) (h2 : ¬ c → B) : if decide c = true then A else B := by
  by_cases h : c
  · rw [decide_eq_true h]; exact iteT (h1 h)
  · rw [decide_eq_false h]; exact iteF (h2 h)
theorem difN {c A B : Prop} [Decidable c] (h1 : ¬ c → A) (h2 : c → B) : if (!decide c) = true then A else B := by
  by_cases h : c
  · rw [decide_eq_true h]; exact iteF (h2 h)
  · rw [decide_eq_false h]; exact iteT (h1 h)
theorem difB {A B : Prop} (h1 : b = true → A) (h2 : b = false → B) : if b = true then A else B := by
  cases b with
  | true => exact iteT (h1 rfl)
  | false => exact iteF (h2 rfl)
theorem difNB {A B : Prop} (h1 : b = false → A) (h2 : b = true → B) : if (!b) = true then A else B := by
  cases b with
  | true => exact iteF (h2 rfl)
  | false => exact iteT (h1 rfl)
theorem difY {c A B : Prop} [Decidable c] (h : c) (q : A) : if decide c = true then A else B := by rw [decide_eq_true h]; exact iteT q
theorem difX {c A B : Prop} [Decidable c] (h : ¬ c) (q : B) : if decide c = true then A else B := by rw [decide_eq_false h]; exact iteF q
/-! ### statements -/
theorem g_seq (q : t ⟨u ⟨n, rt, bk, ct⟩, rt, bk, ct⟩ σ H) : tSeq t u ⟨n, rt, bk, ct⟩ σ H := q
theorem g_next (q : n σ H) : tNext ⟨n, rt, bk, ct⟩ σ H := q
theorem g_drop (q : te σ H fun _ H1 => n σ H1) : tDrop te ⟨n, rt, bk, ct⟩ σ H := q
theorem g_ret (q : te σ H rt) : tRet te ⟨n, rt, bk, ct⟩ σ H := q
theorem g_retN (q : rt .non H) : tRetN ⟨n, rt, bk, ct⟩ σ H := q
theorem g_asg (q : te σ H fun v H1 => asgn m n v σ H1) : tAsg te (gName m) ⟨n, rt, bk, ct⟩ σ H := q
theorem g_asgn (r : SetR σ m (some v) σ') (q : n σ' H) : asgn m n v σ H := by unfold asgn; rw [r.eq]; exact q
theorem g_if (q : tt σ H fun c H1 => if c = true then t ⟨n, rt, bk, ct⟩ σ H1 else u ⟨n, rt, bk, ct⟩ σ H1) : tIfS tt t u ⟨n, rt, bk, ct⟩ σ H := q
theorem g_aug {ti : TIp} (hx : σ[m]? = some (some x)) (q : te σ H fun y H1 => ti x y H1 fun z H2 => asgn m n z σ H2) : tAug m te ti ⟨n, rt, bk, ct⟩ σ H := ⟨x, hx, q⟩
theorem g_ip {f : Int → Int → Int} (q : Q (.int (f i j)) H) : ipI f (.int i) (.int j) H Q := ⟨i, j, rfl, rfl, q⟩
theorem g_sto {f : Str} (q : tb σ H fun y H1 => ta σ H1 fun x H2 => stoK K f y x H2 fun H3 => n σ H3) : sFld K ta tb f ⟨n, rt, bk, ct⟩ σ H := q
theorem g_rz {W : WX} {C : Addr} (q : W (.ref C) none σ H) : tRz W C ⟨n, rt, bk, ct⟩ σ H := q
/-! ### promises by the number of arguments -/
end
def on1 (F : V → Hp → VK → XK → Prop) : Sp := fun vs H Q E => ∃ a, vs = [a] ∧ F a H Q E
def on2 (F : V → V → Hp → VK → XK → Prop) : Sp := fun vs H Q E => ∃ a b, vs = [a, b] ∧ F a b H Q E
def on3 (F : V → V → V → Hp → VK → XK → Prop) : Sp := fun vs H Q E => ∃ a b c, vs = [a, b, c] ∧ F a b c H Q E
def on4 (F : V → V → V → V → Hp → VK → XK → Prop) : Sp := fun vs H Q E => ∃ a b c d, vs = [a, b, c, d] ∧ F a b c d H Q E
def on5 (F : V → V → V → V → V → Hp → VK → XK → Prop) : Sp := fun vs H Q E => ∃ a b c d e, vs = [a, b, c, d, e] ∧ F a b c d e H Q E
section
variable {H : Hp} {Q : VK} {E : XK} {a b c d e : V}
theorem g_on1 {F : V → Hp → VK → XK → Prop} (q : F a H Q E) : on1 F ([a] ++ []) H Q E := ⟨a, rfl, q⟩
theorem g_on2 {F : V → V → Hp → VK → XK → Prop} (q : F a b H Q E) : on2 F ([a, b] ++ []) H Q E := ⟨a, b, rfl, q⟩
theorem g_on3 {F : V → V → V → Hp → VK → XK → Prop} (q : F a b c H Q E) : on3 F ([a, b, c] ++ []) H Q E := ⟨a, b, c, rfl, q⟩
theorem g_on4 {F : V → V → V → V → Hp → VK → XK → Prop} (q : F a b c d H Q E) : on4 F ([a, b, c, d] ++ []) H Q E := ⟨a, b, c, d, rfl, q⟩
end
/-! ### what stands where -/
section
variable {K : PySem.W.Frag} {H H1 : Hp} {a p : Addr} {o u : HO} {xs : List V}
theorem lk_new (h : H a = some o) (hp : H p = none) : upd H p u a = some o := by rw [upd_ne (ne_of_none h hp)]; exact h
theorem lk_mut (hn : a ≠ p) (h : H a = some o) : upd H p u a = some o := by rw [upd_ne hn]; exact h
theorem sq_new (h : SqL K H a xs) (hp : H p = none) : SqL K (upd H p u) a xs := by
  rcases h with (h | ⟨v, h⟩) | h
  · exact .inl (.inl (lk_new h hp))
  · exact .inl (.inr ⟨v, lk_new h hp⟩)
  · exact .inr h
theorem sq_mut (hn : a ≠ p) (h : SqL K H a xs) : SqL K (upd H p u) a xs := by
  rcases h with (h | ⟨v, h⟩) | h
  · exact .inl (.inl (lk_mut hn h))
  · exact .inl (.inr ⟨v, lk_mut hn h⟩)
  · exact .inr h
theorem st_new (h : SqT K H a xs) (hp : H p = none) : SqT K (upd H p u) a xs := by
  rcases h with (h | ⟨v, h⟩) | h
  · exact .inl (.inl (lk_new h hp))
  · exact .inl (.inr ⟨v, lk_new h hp⟩)
  · exact .inr h
theorem st_mut (hn : a ≠ p) (h : SqT K H a xs) : SqT K (upd H p u) a xs := by
  rcases h with (h | ⟨v, h⟩) | h
  · exact .inl (.inl (lk_mut hn h))
  · exact .inl (.inr ⟨v, lk_mut hn h⟩)
  · exact .inr h
theorem sq_of (h : H a = some (.lst xs)) : SqL K H a xs := .inl (.inl h)
theorem stt_of (h : H a = some (.tup xs)) : SqT K H a xs := .inl (.inl h)
theorem Same.tup (e : Same H H1) (h : SqT K H a xs) : SqT K H1 a xs := by
  rcases h with (h | ⟨v, h⟩) | h
  · exact .inl (.inl (e _ _ h))
  · exact .inl (.inr ⟨v, e _ _ h⟩)
  · exact .inr h
theorem same_new (e : Same H H1) (hp : H1 p = none) : Same H (upd H1 p u) := fun b x h => lk_new (e b x h) hp
theorem same_mut (e : Same H H1) (hp : H p = none) : Same H (upd H1 p u) := fun b x h => lk_mut (ne_of_none h hp) (e b x h)
/-- a sequence's place is another than a mutable thing's -/
theorem sq_ne (h : SqL K H a xs) (hK : ∀ o, K.lookup a = some o → H p = none → a ≠ p) (hp : H p = none) : a ≠ p := by
  rcases h with (h | ⟨v, h⟩) | ⟨o, _, _, h, _⟩
  · exact ne_of_none h hp
  · exact ne_of_none h hp
  · exact hK o h hp
end
theorem lk_same {H H1 : Hp} {a : Addr} {o : HO} (e : Same H H1) (h : H a = some o) : H1 a = some o := e a o h
theorem lk_newF {H : Hp} {a p : Addr} {o u : HO} (hp : H p = none) (h : H a = some o) : upd H p u a = some o := lk_new h hp
theorem sq_newF {K : PySem.W.Frag} {H : Hp} {a p : Addr} {u : HO} {xs : List V} (hp : H p = none) (h : SqL K H a xs) : SqL K (upd H p u) a xs := sq_new h hp
theorem st_newF {K : PySem.W.Frag} {H : Hp} {a p : Addr} {u : HO} {xs : List V} (hp : H p = none) (h : SqT K H a xs) : SqT K (upd H p u) a xs := st_new h hp
theorem same_newF {H H1 : Hp} {p : Addr} {u : HO} (hp : H1 p = none) (e : Same H H1) : Same H (upd H1 p u) := same_new e hp
theorem same_mutF {H H1 : Hp} {p : Addr} {u : HO} (hp : H p = none) (e : Same H H1) : Same H (upd H1 p u) := same_mut e hp
theorem same_transF {H H1 H2 : Hp} (f : Same H1 H2) (e : Same H H1) : Same H H2 := Same.trans e f
theorem ne_of_noneF {H : Hp} {a p : Addr} {o : HO} (hp : H p = none) (h : H a = some o) : a ≠ p := ne_of_none h hp
theorem lkF {H H1 : Hp} {a : Addr} {o : HO} (h : H a = some o) (e : Same H H1) : H1 a = some o := e a o h
theorem sqF {K : PySem.W.Frag} {H H1 : Hp} {a : Addr} {xs : List V} (h : SqL K H a xs) (e : Same H H1) : SqL K H1 a xs := e.seq h
theorem sqLF {K : PySem.W.Frag} {H H1 : Hp} {a : Addr} {xs : List V} (h : H a = some (.lst xs)) (e : Same H H1) : SqL K H1 a xs := sq_of (e _ _ h)
theorem tqF {K : PySem.W.Frag} {H H1 : Hp} {a : Addr} {xs : List V} (h : SqT K H a xs) (e : Same H H1) : SqT K H1 a xs := Same.tup e h
theorem tqLF {K : PySem.W.Frag} {H H1 : Hp} {a : Addr} {xs : List V} (h : H a = some (.tup xs)) (e : Same H H1) : SqT K H1 a xs := stt_of (e _ _ h)
/-! Fo, loops and comprehensions over ints and over any values. -/
theorem map_at {α : Type} {f : α → V} {ns : List α} {i : Nat} {x : V} (h : (ns.map f)[i]? = some x) : ∃ z, ns[i]? = some z ∧ x = f z := by
  rw [List.getElem?_map] at h
  cases e : ns[i]? with
  | none => rw [e] at h; cases h
  | some z => rw [e] at h; exact ⟨z, rfl, (Option.some.inj h).symm⟩
/-- the loop over an iteration J, from the slots σ and the heap H -/
def forJ (J : It) (g : TG) (tb : TS) (n : St → Hp → Prop) (rt : VK) (σ : St) (H : Hp) : Prop :=
  ∃ W : Nat → Nat → St → Hp → Prop, (∃ m, W 0 m σ H) ∧ ∀ i m σ H, W i m σ H →
    (J.stop i H ∧ n σ H) ∨ (J.go i H ∧ ∃ N : St → Hp → Prop, (∀ σ' H', N σ' H' → ∃ m', m' < m ∧ W (i + 1) m' σ' H') ∧ ∀ x H', J.yld i H x H' → g x σ H' fun σ2 H2 => tb ⟨N, rt, n, N⟩ σ2 H2)
def forLK (K : PySem.W.Frag) (g : TG) (tb : TS) (n : St → Hp → Prop) (rt : VK) (σ : St) (x : V) (H : Hp) : Prop := ∃ a, x = .ref a ∧ (∃ xs, SqL K H a xs) ∧ forJ (Itl K a) g tb n rt σ H
def forTK (K : PySem.W.Frag) (g : TG) (tb : TS) (n : St → Hp → Prop) (rt : VK) (σ : St) (x : V) (H : Hp) : Prop := ∃ a, x = .ref a ∧ (∃ xs, SqT K H a xs) ∧ forJ (Itt K a) g tb n rt σ H
def forR1K (g : TG) (tb : TS) (n : St → Hp → Prop) (rt : VK) (σ : St) (vs : List V) (H : Hp) : Prop := ∃ j : Int, vs = [.int j] ∧ -(2 ^ 62) ≤ j ∧ j < 2 ^ 62 ∧ forJ (Itr 0 j.toNat) g tb n rt σ H
def forR2K (g : TG) (tb : TS) (n : St → Hp → Prop) (rt : VK) (σ : St) (vs : List V) (H : Hp) : Prop :=
  ∃ i j : Int, vs = [.int i, .int j] ∧ (-(2 ^ 62) ≤ i ∧ i < 2 ^ 62 ∧ -(2 ^ 62) ≤ j ∧ j < 2 ^ 62) ∧ forJ (Itr i (j - i).toNat) g tb n rt σ H
section
variable {K : PySem.W.Frag} {σ σ' : St} {H H' : Hp} {Q : VK} {te te0 : TE} {ta : TA} {tb : TS} {g : TG} {m : Nat} {n : St → Hp → Prop} {rt : VK} {bk ct : St → Hp → Prop} {a : Addr} {xs : List V} {i j : Int}
theorem g_forL (q : te σ H fun x H1 => forLK K g tb n rt σ x H1) : tFor (iList K te) g tb ⟨n, rt, bk, ct⟩ σ H := q
theorem g_forT (q : te σ H fun x H1 => forTK K g tb n rt σ x H1) : tFor (iTup K te) g tb ⟨n, rt, bk, ct⟩ σ H := q
theorem g_forR1 (q : ta σ H fun vs H1 => forR1K g tb n rt σ vs H1) : tFor (iRng1 ta) g tb ⟨n, rt, bk, ct⟩ σ H := q
theorem g_forR2 (q : ta σ H fun vs H1 => forR2K g tb n rt σ vs H1) : tFor (iRng2 ta) g tb ⟨n, rt, bk, ct⟩ σ H := q
theorem for_L (hs : SqL K H a xs) (Pv : Nat → St → Hp → Prop) (h0 : Pv 0 σ H) (hl : ∀ i σ H, Pv i σ H → SqL K H a xs)
    (ht : ∀ i x σ H, xs[i]? = some x → Pv i σ H → g x σ H fun σ2 H2 => tb ⟨Pv (i + 1), rt, n, Pv (i + 1)⟩ σ2 H2) (hd : ∀ σ H, Pv xs.length σ H → n σ H) : forLK K g tb n rt σ (.ref a) H :=
  ⟨a, rfl, ⟨xs, hs⟩, for_list (D := ⟨n, rt, fun _ _ => False, fun _ _ => False⟩) Pv h0 (fun i σ H _ p => hl i σ H p) ht hd⟩
theorem for_T (hs : SqT K H a xs) (Pv : Nat → St → Hp → Prop) (h0 : Pv 0 σ H) (hl : ∀ i σ H, Pv i σ H → SqT K H a xs)
    (ht : ∀ i x σ H, xs[i]? = some x → Pv i σ H → g x σ H fun σ2 H2 => tb ⟨Pv (i + 1), rt, n, Pv (i + 1)⟩ σ2 H2) (hd : ∀ σ H, Pv xs.length σ H → n σ H) : forTK K g tb n rt σ (.ref a) H :=
  ⟨a, rfl, ⟨xs, hs⟩, for_tup (D := ⟨n, rt, fun _ _ => False, fun _ _ => False⟩) Pv h0 (fun i σ H _ p => hl i σ H p) ht hd⟩
/-- over ints, to one name -/
theorem for_LI {ns : List Int} (hs : SqL K H a (ns.map V.int)) (Pv : Nat → St → Hp → Prop) (h0 : Pv 0 σ H) (hl : ∀ i σ H, Pv i σ H → SqL K H a (ns.map V.int))
    (ht : ∀ i z σ H, ns[i]? = some z → Pv i σ H → asgn m (fun σ2 H2 => tb ⟨Pv (i + 1), rt, n, Pv (i + 1)⟩ σ2 H2) (.int z) σ H) (hd : ∀ σ H, Pv ns.length σ H → n σ H) : forLK K (gName m) tb n rt σ (.ref a) H := by
  refine for_L hs Pv h0 hl (fun i x σ H hx p => ?_) fun σ H p => hd σ H (by rw [List.length_map] at p; exact p)
  obtain ⟨z, hz, rfl⟩ := map_at hx
  exact ht i z σ H hz p
theorem for_TI {ns : List Int} (hs : SqT K H a (ns.map V.int)) (Pv : Nat → St → Hp → Prop) (h0 : Pv 0 σ H) (hl : ∀ i σ H, Pv i σ H → SqT K H a (ns.map V.int))
    (ht : ∀ i z σ H, ns[i]? = some z → Pv i σ H → asgn m (fun σ2 H2 => tb ⟨Pv (i + 1), rt, n, Pv (i + 1)⟩ σ2 H2) (.int z) σ H) (hd : ∀ σ H, Pv ns.length σ H → n σ H) : forTK K (gName m) tb n rt σ (.ref a) H := by
  refine for_T hs Pv h0 hl (fun i x σ H hx p => ?_) fun σ H p => hd σ H (by rw [List.length_map] at p; exact p)
  obtain ⟨z, hz, rfl⟩ := map_at hx
  exact ht i z σ H hz p
theorem for_R1 {k : Nat} (hk : j = (k : Int)) (hb : k < 2 ^ 62) (Pv : Nat → St → Hp → Prop) (h0 : Pv 0 σ H)
    (ht : ∀ (i : Nat) σ H, i < k → Pv i σ H → asgn m (fun σ2 H2 => tb ⟨Pv (i + 1), rt, n, Pv (i + 1)⟩ σ2 H2) (.int (i : Int)) σ H) (hd : ∀ σ H, Pv k σ H → n σ H) : forR1K (gName m) tb n rt σ [.int j] H := by
  subst hk
  refine ⟨k, rfl, by omega, by omega, for_range (D := ⟨n, rt, fun _ _ => False, fun _ _ => False⟩) Pv h0 (fun i σ H hi p => ?_) fun σ H p => hd σ H (by simpa using p)⟩
  have e : (0 : Int) + (i : Int) = (i : Int) := by omega
  rw [e]
  exact ht i σ H (by simpa using hi) p
theorem for_R2 {k : Nat} (hk : (j - i).toNat = k) (hb : -(2 ^ 62) ≤ i ∧ i < 2 ^ 62 ∧ -(2 ^ 62) ≤ j ∧ j < 2 ^ 62) (Pv : Nat → St → Hp → Prop) (h0 : Pv 0 σ H)
    (ht : ∀ (l : Nat) σ H, l < k → Pv l σ H → asgn m (fun σ2 H2 => tb ⟨Pv (l + 1), rt, n, Pv (l + 1)⟩ σ2 H2) (.int (i + (l : Int))) σ H) (hd : ∀ σ H, Pv k σ H → n σ H) : forR2K (gName m) tb n rt σ [.int i, .int j] H := by
  subst hk
  exact ⟨i, j, rfl, hb, for_range (D := ⟨n, rt, fun _ _ => False, fun _ _ => False⟩) Pv h0 (fun l σ H hi p => ht l σ H hi p) fun σ H p => hd σ H p⟩
/-! ### comprehensions -/
def lcJ (J : It) (g : TG) (tt : TT) (te : TE) (vs : List Nat) (σ : St) (H1 : Hp) (Q : VK) : Prop :=
  ∀ D, H1 D = none → ∃ W : Nat → Nat → Hp → Prop, (∃ m, W 0 m (upd H1 D (.lst []))) ∧ ∀ i m H, W i m H →
  (J.stop i H ∧ Q (.ref D) H) ∨ (J.go i H ∧ ∃ Nx : Hp → Prop, (∀ H', Nx H' → ∃ m', m' < m ∧ W (i + 1) m' H') ∧ ∀ x H', J.yld i H x H' → g x (wipe σ vs) H' fun σ2 H2 => wipe σ2 vs = wipe σ vs ∧ tt σ2 H2 fun b H3 =>
    if b = true then te σ2 H3 fun y H4 => ∃ acc, H4 D = some (.lst acc) ∧ acc.length < sizeLine ∧ Nx (upd H4 D (.lst (acc ++ [y]))) else Nx H3)
def lcLK (K : PySem.W.Frag) (g : TG) (tt : TT) (te : TE) (vs : List Nat) (σ : St) (x : V) (H : Hp) (Q : VK) : Prop := ∃ a, x = .ref a ∧ (∃ xs, SqL K H a xs) ∧ lcJ (Itl K a) g tt te vs σ H Q
def lcTK (K : PySem.W.Frag) (g : TG) (tt : TT) (te : TE) (vs : List Nat) (σ : St) (x : V) (H : Hp) (Q : VK) : Prop := ∃ a, x = .ref a ∧ (∃ xs, SqT K H a xs) ∧ lcJ (Itt K a) g tt te vs σ H Q
def lcR1K (g : TG) (tt : TT) (te : TE) (vs : List Nat) (σ : St) (us : List V) (H : Hp) (Q : VK) : Prop := ∃ j : Int, us = [.int j] ∧ -(2 ^ 62) ≤ j ∧ j < 2 ^ 62 ∧ lcJ (Itr 0 j.toNat) g tt te vs σ H Q
theorem g_lcL {tt : TT} {vs : List Nat} (q : te0 σ H fun x H1 => lcLK K g tt te vs σ x H1 Q) : tLc (iList K te0) g tt te vs σ H Q := q
theorem g_lcT {tt : TT} {vs : List Nat} (q : te0 σ H fun x H1 => lcTK K g tt te vs σ x H1 Q) : tLc (iTup K te0) g tt te vs σ H Q := q
theorem g_lcR1 {tt : TT} {vs : List Nat} (q : ta σ H fun us H1 => lcR1K g tt te vs σ us H1 Q) : tLc (iRng1 ta) g tt te vs σ H Q := q
/-- each item's value y: f x. What the elements lay down besides stands behind -/
def eachK (te : TE) (m : Nat) (σ : St) (H1 : Hp) (D : Addr) (x y : V) : Prop :=
  ∀ H2 Q, Same H1 H2 → (∀ H3, Same H2 H3 → Q y H3) → asgn m (fun σ2 H2 => te σ2 H2 Q) x (σ.set m none) H2
theorem wipe1 (x : Option V) : wipe (((wipe σ [m])).set m x) [m] = wipe σ [m] := by
  show ((((σ.set m none)).set m x).set m none) = σ.set m none
  rw [List.set_set, List.set_set]
theorem lc_each (xs : List V) (f : V → V) (J : It) (hg : ∀ i H, i < xs.length → Same H' H → J.go i H) (hy : ∀ i H x H2, i < xs.length → Same H' H → J.yld i H x H2 → H2 = H ∧ xs[i]? = some x) (hs : ∀ H, Same H' H → J.stop xs.length H) (hl : xs.length ≤ 1000000)
    (he : ∀ x, x ∈ xs → ∀ D, eachK te m σ H' D x (f x)) (hq : ∀ D H3, H' D = none → Same H' H3 → H3 D = some (.lst (xs.map f)) → Q (.ref D) H3) : lcJ J (gName m) tYes te [m] σ H' Q := by
  intro D hD
  refine ⟨fun i k H => k = xs.length - i ∧ i ≤ xs.length ∧ Same H' H ∧ H D = some (.lst ((xs.take i).map f)), ⟨xs.length, rfl, Nat.zero_le _, same_new (Same.refl _) hD, upd_same⟩, ?_⟩
  rintro i k H ⟨rfl, hi, s, e⟩
  by_cases hlt : i < xs.length
  · refine .inr ⟨hg i H hlt s, fun H2 => Same H' H2 ∧ H2 D = some (.lst ((xs.take (i + 1)).map f)), fun H2 p => ⟨xs.length - (i + 1), by omega, rfl, hlt, p⟩, fun x H2 hx => ?_⟩
    obtain ⟨rfl, ex⟩ := hy i H x H2 hlt s hx
    have hm : x ∈ xs := List.mem_of_getElem? ex
    refine ⟨wipe1 _, ?_⟩
    have yes : ∀ {A B : Prop}, A → if true = true then A else B := fun h => iteT h
    refine yes (B := ((fun H2 => Same H' H2 ∧ H2 D = some (HO.lst ((xs.take (i + 1)).map f))) H2)) ?_
    refine he x hm D H2 _ s fun H3 s3 => ⟨(xs.take i).map f, s3 _ _ e, ?_, same_mut (Same.trans s s3) hD, ?_⟩
    · rw [List.length_map, List.length_take]
      exact Nat.lt_of_le_of_lt (Nat.le_trans (Nat.min_le_right _ _) hl) (by decide)
    · rw [upd_same, List.take_add_one, ex, List.map_append]
      rfl
  · have e1 : i = xs.length := by omega
    subst e1
    rw [List.take_length] at e
    exact .inl ⟨hs H s, hq D H hD s e⟩
theorem lc_L (hs : SqL K H a xs) (f : V → V) (hl : xs.length ≤ 1000000) (he : ∀ x, x ∈ xs → ∀ D, eachK te m σ H D x (f x)) (hq : ∀ D H3, H D = none → Same H H3 → H3 D = some (.lst (xs.map f)) → Q (.ref D) H3) :
    lcLK K (gName m) tYes te [m] σ (.ref a) H Q :=
  ⟨a, rfl, ⟨xs, hs⟩, lc_each xs f (Itl K a) (fun i H hi s => ⟨xs, xs[i], s.seq hs, List.getElem?_eq_getElem hi⟩) (fun i H x H2 _ s y => ⟨y.1, y.2 xs (s.seq hs)⟩) (fun H s => ⟨xs, s.seq hs, Nat.le_refl _⟩) hl he hq⟩
theorem lc_T (hs : SqT K H a xs) (f : V → V) (hl : xs.length ≤ 1000000) (he : ∀ x, x ∈ xs → ∀ D, eachK te m σ H D x (f x)) (hq : ∀ D H3, H D = none → Same H H3 → H3 D = some (.lst (xs.map f)) → Q (.ref D) H3) :
    lcTK K (gName m) tYes te [m] σ (.ref a) H Q :=
  ⟨a, rfl, ⟨xs, hs⟩, lc_each xs f (Itt K a) (fun i H hi s => ⟨xs, xs[i], Fo.Same.tup s hs, List.getElem?_eq_getElem hi⟩) (fun i H x H2 _ s y => ⟨y.1, y.2 xs (Fo.Same.tup s hs)⟩) (fun H s => ⟨xs, Fo.Same.tup s hs, Nat.le_refl _⟩) hl he hq⟩
/-- ints to anything -/
theorem lc_LI {ns : List Int} (hs : SqL K H a (ns.map V.int)) (f : Int → V) (hl : ns.length ≤ 1000000) (he : ∀ z, z ∈ ns → ∀ D, eachK te m σ H D (.int z) (f z)) (hq : ∀ D H3, H D = none → Same H H3 → H3 D = some (.lst (ns.map f)) → Q (.ref D) H3) :
    lcLK K (gName m) tYes te [m] σ (.ref a) H Q := by
  have key : (ns.map V.int).map (fun v => match v with | .int z => f z | _ => .non) = ns.map f := by rw [List.map_map]; rfl
  refine lc_L hs (fun v => match v with | .int z => f z | _ => .non) (by rw [List.length_map]; exact hl) (fun x hx D => ?_) (by rw [key]; exact hq)
  obtain ⟨z, hz, rfl⟩ := List.mem_map.mp hx
  exact he z hz D
theorem lc_TI {ns : List Int} (hs : SqT K H a (ns.map V.int)) (f : Int → V) (hl : ns.length ≤ 1000000) (he : ∀ z, z ∈ ns → ∀ D, eachK te m σ H D (.int z) (f z)) (hq : ∀ D H3, H D = none → Same H H3 → H3 D = some (.lst (ns.map f)) → Q (.ref D) H3) :
    lcTK K (gName m) tYes te [m] σ (.ref a) H Q := by
  have key : (ns.map V.int).map (fun v => match v with | .int z => f z | _ => .non) = ns.map f := by rw [List.map_map]; rfl
  refine lc_T hs (fun v => match v with | .int z => f z | _ => .non) (by rw [List.length_map]; exact hl) (fun x hx D => ?_) (by rw [key]; exact hq)
  obtain ⟨z, hz, rfl⟩ := List.mem_map.mp hx
  exact he z hz D
theorem lc_R1 {k : Nat} (hk : j = (k : Int)) (f : Nat → V) (hl : k ≤ 1000000) (he : ∀ i, i < k → ∀ D, eachK te m σ H D (.int (i : Int)) (f i)) (hq : ∀ D H3, H D = none → Same H H3 → H3 D = some (.lst ((List.range k).map f)) → Q (.ref D) H3) :
    lcR1K (gName m) tYes te [m] σ [.int j] H Q := by
  subst hk
  have key : ((List.range k).map fun (i : Nat) => V.int (i : Int)).map (fun v => match v with | .int z => f z.toNat | _ => .non) = (List.range k).map f := by rw [List.map_map]; rfl
  have len : ((List.range k).map fun (i : Nat) => V.int (i : Int)).length = k := by simp
  refine ⟨k, rfl, by omega, by omega, lc_each ((List.range k).map fun (i : Nat) => V.int (i : Int)) (fun v => match v with | .int z => f z.toNat | _ => .non) (Itr 0 (k : Int).toNat) (fun i H hi s => ?_) (fun i H x H2 hi s y => ?_) (fun H s => ?_) (by rw [len]; exact hl) (fun x hx D => ?_) (by rw [key]; exact hq)⟩
  · rw [len] at hi
    show i < (k : Int).toNat
    simpa using hi
  · obtain ⟨rfl, rfl⟩ := y
    rw [len] at hi
    refine ⟨rfl, ?_⟩
    rw [List.getElem?_map, List.getElem?_range hi]
    show some (V.int (i : Int)) = some (V.int (0 + (i : Int)))
    rw [Int.zero_add]
  · rw [len]
    show (k : Int).toNat ≤ k
    simp
  · obtain ⟨i, hi, rfl⟩ := List.mem_map.mp hx
    exact he i (by simpa using hi) D
end
/-! Fo, data as a whole: == of lists, tuples, texts and ints at any depth below 60, no truths within. -/
mutual
def clean : PyData → Bool
  | .none => true
  | .bool _ => false
  | .int _ => true
  | .str _ => true
  | .list xs => cleanAll xs
  | .tuple xs => cleanAll xs
  | .dict _ => false
def cleanAll : List PyData → Bool
  | [] => true
  | x :: xs => clean x && cleanAll xs
end
mutual
theorem eqv_is : ∀ d e : PyData, clean d = true → clean e = true → (PyData.eqv d e = true ↔ d = e)
  | .none, e, h, h' => by cases e <;> simp [PyData.eqv]
  | .bool b, e, h, h' => by simp [clean] at h
  | .int i, e, h, h' => by cases e <;> simp [PyData.eqv, clean] at h' ⊢
  | .str z, e, h, h' => by cases e <;> simp [PyData.eqv]
  | .list xs, e, h, h' => by
    cases e with
    | list ys =>
      simp only [clean] at h h'
      simp only [PyData.eqv, PyData.list.injEq]
      exact eqvAll_is xs ys h h'
    | _ => simp [PyData.eqv]
  | .tuple xs, e, h, h' => by
    cases e with
    | tuple ys =>
      simp only [clean] at h h'
      simp only [PyData.eqv, PyData.tuple.injEq]
      exact eqvAll_is xs ys h h'
    | _ => simp [PyData.eqv]
  | .dict _, e, h, h' => by simp [clean] at h
theorem eqvAll_is : ∀ xs ys : List PyData, cleanAll xs = true → cleanAll ys = true → (PyData.eqvAll xs ys = true ↔ xs = ys)
  | [], [], _, _ => by simp [PyData.eqvAll]
  | [], _ :: _, _, _ => by simp [PyData.eqvAll]
  | _ :: _, [], _, _ => by simp [PyData.eqvAll]
  | x :: xs, y :: ys, h, h' => by
    simp only [cleanAll, Bool.and_eq_true] at h h'
    simp only [PyData.eqvAll, Bool.and_eq_true, List.cons.injEq]
    rw [eqv_is x y h.1 h'.1, eqvAll_is xs ys h.2 h'.2]
end
/-- data that == compares as they stand -/
structure Okd (n : Nat) (d : PyData) : Prop where
  lay : d.canLay0 = true
  cl : clean d = true
  dp : d.depth ≤ n
theorem okd_non {n : Nat} : Okd n .none := ⟨rfl, by simp [clean], by simp [PyData.depth]⟩
theorem okd_int {n : Nat} {i : Int} : Okd n (.int i) := ⟨rfl, by simp [clean], by simp [PyData.depth]⟩
theorem okd_str {n : Nat} {z : Str} (h : PyData.strOk z = true) : Okd n (.str z) := ⟨by simpa [PyData.canLay0] using h, by simp [clean], by simp [PyData.depth]⟩
theorem okd_all {n : Nat} : ∀ {ds : List PyData}, (∀ d ∈ ds, Okd n d) → PyData.canLayAll0 ds = true ∧ cleanAll ds = true ∧ PyData.depthAll ds ≤ n
  | [], _ => by simp [PyData.canLayAll0, cleanAll, PyData.depthAll]
  | d :: ds, h => by
    obtain ⟨a, b, c⟩ := okd_all (ds := ds) fun e he => h e (List.mem_cons_of_mem _ he)
    have k := h d List.mem_cons_self
    refine ⟨?_, ?_, ?_⟩
    · simp [PyData.canLayAll0, k.lay, a]
    · simp [cleanAll, k.cl, b]
    · simp only [PyData.depthAll]
      have := k.dp
      omega
theorem okd_lst {n : Nat} {ds : List PyData} (h : ∀ d ∈ ds, Okd n d) : Okd (n + 1) (.list ds) := by
  obtain ⟨a, b, c⟩ := okd_all h
  exact ⟨by simpa [PyData.canLay0] using a, by simpa [clean] using b, by simp only [PyData.depth]; omega⟩
theorem okd_tup {n : Nat} {ds : List PyData} (h : ∀ d ∈ ds, Okd n d) : Okd (n + 1) (.tuple ds) := by
  obtain ⟨a, b, c⟩ := okd_all h
  exact ⟨by simpa [PyData.canLay0] using a, by simpa [clean] using b, by simp only [PyData.depth]; omega⟩
theorem okd_ints {n : Nat} {ns : List Int} : ∀ d ∈ ns.map PyData.int, Okd n d := fun d h => by
  obtain ⟨i, _, rfl⟩ := List.mem_map.mp h
  exact okd_int
theorem Okd.shaped {n : Nat} {d : PyData} (h : Okd n d) (hn : n ≤ 64) : SeqAt.shaped d = true := by
  unfold SeqAt.shaped
  rw [h.lay, Bool.true_and]
  exact decide_eq_true (Nat.le_trans h.dp hn)
section
variable {K : PySem.W.Frag} {H : Hp} {Q : VK} {x y : V} {d e : PyData} {n m : Nat} {b : Bool} {p q : Addr}
theorem g_sameD (hx : Dp K H x d) (hy : Dp K H y e) (od : Okd n d) (oe : Okd m e) (hn : n ≤ 64) (hm : m ≤ 64) (hb : b = true ↔ d = e) (k : Q (.bl b) H) : rSame K x y H Q := by
  refine .inr ⟨d, e, hx, hy, od.shaped hn, oe.shaped hm, ?_⟩
  have z : PyData.eqv d e = b := by
    rw [Bool.eq_iff_iff, eqv_is d e od.cl oe.cl, hb]
  rw [z]
  exact k
theorem g_diffD (hx : Dp K H x d) (hy : Dp K H y e) (od : Okd n d) (oe : Okd m e) (hn : n ≤ 64) (hm : m ≤ 64) (hb : b = true ↔ d = e) (k : Q (.bl (!b)) H) : rDiff K x y H Q := by
  refine .inr ⟨d, e, hx, hy, od.shaped hn, oe.shaped hm, ?_⟩
  have z : PyData.eqv d e = b := by
    rw [Bool.eq_iff_iff, eqv_is d e od.cl oe.cl, hb]
  rw [z]
  exact k
theorem dpAll_ints : ∀ {ns : List Int}, DpAll K H (ns.map V.int) (ns.map PyData.int)
  | [] => .nil
  | i :: ns => .cons (.int i) (dpAll_ints (ns := ns))
theorem map_int_inj {ns ms : List Int} : ns.map PyData.int = ms.map PyData.int ↔ ns = ms := by
  constructor
  · intro h
    induction ns generalizing ms with
    | nil => cases ms with
      | nil => rfl
      | cons => cases h
    | cons i ns ih => cases ms with
      | nil => cases h
      | cons j ms =>
        simp only [List.map_cons, List.cons.injEq, PyData.int.injEq] at h
        rw [h.1, ih h.2]
  · intro h; rw [h]
theorem g_sameLI {ns ms : List Int} (hx : SqL K H p (ns.map V.int)) (hy : SqL K H q (ms.map V.int)) (k : Q (.bl (decide (ns = ms))) H) : rSame K (.ref p) (.ref q) H Q :=
  g_sameD (n := 1) (m := 1) (.lst hx dpAll_ints) (.lst hy dpAll_ints) (okd_lst okd_ints) (okd_lst okd_ints) (by decide) (by decide) (by rw [decide_eq_true_iff, PyData.list.injEq, map_int_inj]) k
theorem g_diffLI {ns ms : List Int} (hx : SqL K H p (ns.map V.int)) (hy : SqL K H q (ms.map V.int)) (k : Q (.bl (!decide (ns = ms))) H) : rDiff K (.ref p) (.ref q) H Q :=
  g_diffD (n := 1) (m := 1) (.lst hx dpAll_ints) (.lst hy dpAll_ints) (okd_lst okd_ints) (okd_lst okd_ints) (by decide) (by decide) (by rw [decide_eq_true_iff, PyData.list.injEq, map_int_inj]) k
theorem g_sameTI {ns ms : List Int} (hx : SqT K H p (ns.map V.int)) (hy : SqT K H q (ms.map V.int)) (k : Q (.bl (decide (ns = ms))) H) : rSame K (.ref p) (.ref q) H Q :=
  g_sameD (n := 1) (m := 1) (.tup hx dpAll_ints) (.tup hy dpAll_ints) (okd_tup okd_ints) (okd_tup okd_ints) (by decide) (by decide) (by rw [decide_eq_true_iff, PyData.tuple.injEq, map_int_inj]) k
theorem g_diffTI {ns ms : List Int} (hx : SqT K H p (ns.map V.int)) (hy : SqT K H q (ms.map V.int)) (k : Q (.bl (!decide (ns = ms))) H) : rDiff K (.ref p) (.ref q) H Q :=
  g_diffD (n := 1) (m := 1) (.tup hx dpAll_ints) (.tup hy dpAll_ints) (okd_tup okd_ints) (okd_tup okd_ints) (by decide) (by decide) (by rw [decide_eq_true_iff, PyData.tuple.injEq, map_int_inj]) k
end
/-! ### slices of lists of anything -/
def cutL {α : Type} (xs : List α) (lo hi : Option Int) : List α := (xs.drop (HT.sIx xs.length 0 lo)).take (HT.sIx xs.length xs.length hi - HT.sIx xs.length 0 lo)
theorem cutV_map {α : Type} (f : α → V) (xs : List α) (lo hi : Option Int) : cutV (xs.map f) lo hi = (cutL xs lo hi).map f := by
  unfold cutV cutL
  rw [List.length_map, ← List.map_drop, ← List.map_take]
theorem cutL_len {α : Type} (xs : List α) (lo hi : Option Int) : (cutL xs lo hi).length ≤ xs.length := by
  unfold cutL
  rw [List.length_take, List.length_drop]
  omega
theorem cutL_sub {α : Type} (xs : List α) (lo hi : Option Int) {x : α} (h : x ∈ cutL xs lo hi) : x ∈ xs := List.mem_of_mem_drop (List.mem_of_mem_take h)
theorem cutL_to {α : Type} (xs : List α) (k : Nat) : cutL xs none (some (k : Int)) = xs.take k := by
  unfold cutL
  rw [HT.sIx_none, HT.sIx_nat]
  show List.take (min k xs.length - 0) xs = xs.take k
  rw [Nat.sub_zero, List.take_eq_take_iff]
  omega
theorem cutL_from {α : Type} (xs : List α) (k : Nat) : cutL xs (some (k : Int)) none = xs.drop k := by
  unfold cutL
  rw [HT.sIx_none, HT.sIx_nat]
  by_cases h : k ≤ xs.length
  · rw [Nat.min_eq_left h, List.take_of_length_le]
    rw [List.length_drop]
    omega
  · have e : min k xs.length = xs.length := by omega
    rw [e, List.drop_of_length_le (Nat.le_refl _), List.drop_of_length_le (by omega)]
    simp
theorem cutL_both {α : Type} (xs : List α) (i j : Nat) : cutL xs (some (i : Int)) (some (j : Int)) = (xs.drop i).take (j - i) := by
  unfold cutL
  rw [HT.sIx_nat, HT.sIx_nat]
  by_cases h : i ≤ xs.length
  · rw [Nat.min_eq_left h, List.take_eq_take_iff, List.length_drop]
    omega
  · have e : min i xs.length = xs.length := by omega
    rw [e, List.drop_of_length_le (Nat.le_refl _), List.drop_of_length_le (by omega)]
    simp
theorem cutL_butlast {α : Type} (xs : List α) : cutL xs none (some (-1)) = xs.dropLast := by
  unfold cutL
  rw [HT.sIx_none]
  show List.take (HT.sIx xs.length xs.length (some (-1)) - 0) xs = _
  rw [Nat.sub_zero, List.dropLast_eq_take]
  congr 1
  show (if (-1 : Int) < 0 then ((-1 : Int) + (xs.length : Int)).toNat else min (-1 : Int).toNat xs.length) = xs.length - 1
  rw [if_pos (by decide)]
  omega
theorem g_sameB {K : PySem.W.Frag} {H : Hp} {Q : VK} {p r : Addr} {bs cs : List Bool} {b : Bool} (hx : SqL K H p (bs.map V.bl)) (hy : SqL K H r (cs.map V.bl)) (s1 : SeqAt.shaped (.list (bs.map PyData.bool)) = true) (s2 : SeqAt.shaped (.list (cs.map PyData.bool)) = true)
    (h : PyData.eqv (.list (bs.map PyData.bool)) (.list (cs.map PyData.bool)) = b) (q : Q (.bl b) H) : rSame K (.ref p) (.ref r) H Q := by
  have dp : ∀ bs : List Bool, DpAll K H (bs.map V.bl) (bs.map PyData.bool) := fun bs => by
    induction bs with
    | nil => exact .nil
    | cons b bs ih => exact .cons (.bl b) ih
  exact .inr ⟨_, _, .lst hx (dp bs), .lst hy (dp cs), s1, s2, by rw [h]; exact q⟩
theorem g_diffB {K : PySem.W.Frag} {H : Hp} {Q : VK} {p r : Addr} {bs cs : List Bool} {b : Bool} (hx : SqL K H p (bs.map V.bl)) (hy : SqL K H r (cs.map V.bl)) (s1 : SeqAt.shaped (.list (bs.map PyData.bool)) = true) (s2 : SeqAt.shaped (.list (cs.map PyData.bool)) = true)
    (h : PyData.eqv (.list (bs.map PyData.bool)) (.list (cs.map PyData.bool)) = b) (q : Q (.bl (!b)) H) : rDiff K (.ref p) (.ref r) H Q := by
  have dp : ∀ bs : List Bool, DpAll K H (bs.map V.bl) (bs.map PyData.bool) := fun bs => by
    induction bs with
    | nil => exact .nil
    | cons b bs ih => exact .cons (.bl b) ih
  exact .inr ⟨_, _, .lst hx (dp bs), .lst hy (dp cs), s1, s2, by rw [h]; exact q⟩
/-! Fo, objects: fields of own classes, calls of methods, what stays when some things change. -/
class HasCls (K : PySem.W.Frag) (C : Str) : Prop where h : Cls K (He.ga K C)
class HasNo (K : PySem.W.Frag) (C f : Str) : Prop where h : NoAttr K (He.ga K C) f
/-- all but what M names stays; nothing goes -/
structure SameX (M : Addr → Prop) (H H1 : Hp) : Prop where
  kp : ∀ b o, ¬ M b → H b = some o → H1 b = some o
  dm : ∀ b, H1 b = none → H b = none
theorem upd_none {H : Hp} {a b : Addr} {o : HO} (h : upd H a o b = none) : H b = none := by
  by_cases e : b = a
  · rw [e, upd_same] at h; cases h
  · rw [upd_ne e] at h; exact h
theorem upd_upd {H : Hp} {a : Addr} {o u : HO} : upd (upd H a o) a u = upd H a u := by
  funext b
  by_cases e : b = a
  · rw [e, upd_same, upd_same]
  · rw [upd_ne e, upd_ne e, upd_ne e]
theorem SameX.refl {M : Addr → Prop} (H : Hp) : SameX M H H := ⟨fun _ _ _ h => h, fun _ h => h⟩
theorem SameX.of {M : Addr → Prop} {H H1 : Hp} (s : Same H H1) : SameX M H H1 := ⟨fun b o _ h => s b o h, fun _ h => s.free h⟩
theorem SameX.trans {M : Addr → Prop} {H H1 H2 : Hp} (s : SameX M H H1) (t : SameX M H1 H2) : SameX M H H2 := ⟨fun b o n h => t.kp b o n (s.kp b o n h), fun b h => s.dm b (t.dm b h)⟩
theorem SameX.mono {M N : Addr → Prop} {H H1 : Hp} (s : SameX M H H1) (h : ∀ b, M b → N b) : SameX N H H1 := ⟨fun b o n e => s.kp b o (fun m => n (h b m)) e, s.dm⟩
/-- what M names besides was not there -/
theorem SameX.mono' {M N : Addr → Prop} {H H1 : Hp} (s : SameX M H H1) (h : ∀ b, M b → H b ≠ none → N b) : SameX N H H1 := ⟨fun b o n e => s.kp b o (fun m => n (h b m (by rw [e]; exact fun z => nomatch z))) e, s.dm⟩
theorem SameX.mut {M : Addr → Prop} {H H1 : Hp} {a : Addr} {o : HO} (s : SameX M H H1) (h : M a) : SameX M H (upd H1 a o) :=
  ⟨fun b u n e => by rw [upd_ne (fun z : b = a => n (by rw [z]; exact h))]; exact s.kp b u n e, fun b e => s.dm b (upd_none e)⟩
theorem SameX.new {M : Addr → Prop} {H H1 : Hp} {a : Addr} {o : HO} (s : SameX M H H1) (h : H1 a = none) : SameX M H (upd H1 a o) :=
  ⟨fun b u n e => lk_new (s.kp b u n e) h, fun b e => s.dm b (upd_none e)⟩
theorem SameX.newmut {M : Addr → Prop} {H H1 : Hp} {a : Addr} {o : HO} (s : SameX M H H1) (h : H a = none) : SameX M H (upd H1 a o) :=
  ⟨fun b u n e => lk_mut (ne_of_none e h) (s.kp b u n e), fun b e => s.dm b (upd_none e)⟩
theorem SameX.same {H H1 : Hp} (s : SameX (fun _ => False) H H1) : Same H H1 := fun b o h => s.kp b o (fun z => z) h
theorem SameX.lk {M : Addr → Prop} {H H1 : Hp} {a : Addr} {o : HO} (s : SameX M H H1) (n : ¬ M a) (h : H a = some o) : H1 a = some o := s.kp a o n h
theorem SameX.seq {K : PySem.W.Frag} {M : Addr → Prop} {H H1 : Hp} {a : Addr} {xs : List V} (s : SameX M H H1) (n : ¬ M a) (h : SqL K H a xs) : SqL K H1 a xs := by
  rcases h with (h | ⟨v, h⟩) | h
  · exact .inl (.inl (s.kp _ _ n h))
  · exact .inl (.inr ⟨v, s.kp _ _ n h⟩)
  · exact .inr h
theorem SameX.tup {K : PySem.W.Frag} {M : Addr → Prop} {H H1 : Hp} {a : Addr} {xs : List V} (s : SameX M H H1) (n : ¬ M a) (h : SqT K H a xs) : SqT K H1 a xs := by
  rcases h with (h | ⟨v, h⟩) | h
  · exact .inl (.inl (s.kp _ _ n h))
  · exact .inl (.inr ⟨v, s.kp _ _ n h⟩)
  · exact .inr h
/-- what is changed was not there at first -/
theorem SameX.back {M : Addr → Prop} {H H1 H2 : Hp} (s0 : Same H H1) (s : SameX M H1 H2) (h : ∀ b, M b → H b = none) : Same H H2 := fun b o e => s.kp b o (fun m => by rw [h b m] at e; cases e) (s0 b o e)
theorem SameX.back1 {a : Addr} {H H1 H2 : Hp} (s0 : Same H H1) (s : SameX (· = a) H1 H2) (h : H a = none) : Same H H2 := s.back s0 fun b m => by rw [m]; exact h
/-- another kind of thing stands there -/
theorem ne_kind {H : Hp} {a b : Addr} {o u : HO} (h : H a = some o) (k : H b = some u) (d : o ≠ u) : a ≠ b := fun e => d (Option.some.inj (by rw [← h, ← k, e]))
/-! ### fields -/
theorem putF_nil {f : Str} {v : V} : putF f v [] = [(f, v)] := rfl
theorem putF_hit {f : Str} {v u : V} {r : List (Str × V)} : putF f v ((f, u) :: r) = (f, v) :: r := by simp [putF]
theorem putF_far {f g : Str} {v u : V} {r r' : List (Str × V)} (h : g ≠ f) (k : putF f v r = r') : putF f v ((g, u) :: r) = (g, u) :: r' := by
  subst k
  show (if g = f then _ else _) = _
  rw [if_neg h]
def mthK (m : Str) (ms : Addr → Sp → Prop) (x : V) (H : Hp) (A : Sp → Prop) : Prop := ∃ a C dx fs sp, x = .ref a ∧ H a = some (.ins C dx fs) ∧ ms C sp ∧ fs.lookup m = none ∧ A sp
def augK (K : PySem.W.Frag) (tv : TE) (rd : V → V → Hp → VK → Prop) (f : Str) (x : V) (σ : St) (H : Hp) (n : Hp → Prop) : Prop := ∃ a C dx fs v, x = .ref a ∧ H a = some (.ins C dx fs) ∧ Cls K C ∧ NoAttr K C f ∧ fs.lookup f = some v ∧
  tv σ H fun y H2 => rd v y H2 fun z H3 => ∃ dx' fs', H3 a = some (.ins C dx' fs') ∧ fs'.length < 1000 ∧ n (upd H3 a (.ins C dx' (putF f z fs')))
def putK (f : Str) (C a : Addr) (z : V) (H : Hp) (n : Hp → Prop) : Prop := ∃ dx' fs', H a = some (.ins C dx' fs') ∧ fs'.length < 1000 ∧ n (upd H a (.ins C dx' (putF f z fs')))
/-- a turn of a while loop, its measure m -/
def whK (W : Nat → St → Hp → Prop) (m : Nat) (tb : TS) (n : St → Hp → Prop) (rt : VK) (σ : St) (H : Hp) : Prop := ∃ N : St → Hp → Prop, (∀ σ' H', N σ' H' → ∃ m', m' < m ∧ W m' σ' H') ∧ tb ⟨N, rt, n, N⟩ σ H
section
variable {K : PySem.W.Frag} {σ : St} {H H' : Hp} {Q : VK} {te ta tv : TE} {tl : TA} {x y v : V} {i j : Int} {rd : V → V → Hp → VK → Prop}
variable {n : St → Hp → Prop} {nH : Hp → Prop} {rt : VK} {bk ct : St → Hp → Prop} {p dx C' : Addr} {fs fs' : List (Str × V)} {C f m : Str} {sp : Sp}
theorem g_mthd {ms : Addr → Sp → Prop} {E : St → XK} (q : te σ H fun x H1 => mthK m ms x H1 fun sp => tl σ H1 fun vs H2 => sp (x :: vs) H2 Q (E σ)) : tMth m ms E te tl σ H Q := q
theorem g_one {A : Sp → Prop} (h : H p = some (.ins C' dx fs)) (hl : fs.lookup m = none) (q : A sp) : mthK m (one C' sp) (.ref p) H A := ⟨p, C', dx, fs, sp, rfl, h, ⟨rfl, rfl⟩, hl, q⟩
theorem g_oneD {A : Sp → Prop} {dvs : List V} (h : H p = some (.ins C' dx fs)) (hl : fs.lookup m = none) (q : A (fun vs H Q E => sp (vs ++ dvs) H Q E)) : mthK m (oneD C' sp dvs) (.ref p) H A := ⟨p, C', dx, fs, _, rfl, h, ⟨rfl, rfl⟩, hl, q⟩
theorem g_orA {A : Sp → Prop} {m1 m2 : Addr → Sp → Prop} (q : mthK m m1 x H A) : mthK m (orM m1 m2) x H A := by
  obtain ⟨a, C, dx, fs, sp, e, h, k, l, q⟩ := q
  exact ⟨a, C, dx, fs, sp, e, h, .inl k, l, q⟩
theorem g_orB {A : Sp → Prop} {m1 m2 : Addr → Sp → Prop} (q : mthK m m2 x H A) : mthK m (orM m1 m2) x H A := by
  obtain ⟨a, C, dx, fs, sp, e, h, k, l, q⟩ := q
  exact ⟨a, C, dx, fs, sp, e, h, .inr k, l, q⟩
theorem g_fldA (h : H p = some (.ins (He.ga K C) dx fs)) (hl : fs.lookup f = some v) (c : HasCls K C) (o : HasNo K C f) (q : Q v H) : fldK K f (.ref p) H Q := g_fldK h c.h o.h hl q
theorem g_stoA (h : H p = some (.ins (He.ga K C) dx fs)) (hl : fs.length < 1000) (e : putF f y fs = fs') (c : HasCls K C) (o : HasNo K C f) (q : nH (upd H p (.ins (He.ga K C) dx fs'))) : stoK K f y (.ref p) H nH := by
  subst e
  exact g_stoK h c.h o.h hl q
theorem g_stoU (hl : fs.length < 1000) (e : putF f y fs = fs') (c : HasCls K C) (o : HasNo K C f) (q : nH (upd H p (.ins (He.ga K C) dx fs'))) : stoK K f y (.ref p) (upd H p (.ins (He.ga K C) dx fs)) nH := by
  refine g_stoA (C := C) upd_same hl e c o ?_
  rw [upd_upd]
  exact q
theorem g_fldaug (q : ta σ H fun x H1 => augK K tv rd f x σ H1 fun H2 => n σ H2) : sFldAug K ta tv rd f ⟨n, rt, bk, ct⟩ σ H := q
theorem g_augA (h : H p = some (.ins (He.ga K C) dx fs)) (hl : fs.lookup f = some v) (c : HasCls K C) (o : HasNo K C f) (q : tv σ H fun y H2 => rd v y H2 fun z H3 => putK f (He.ga K C) p z H3 nH) : augK K tv rd f (.ref p) σ H nH :=
  ⟨p, _, dx, fs, v, rfl, h, c.h, o.h, hl, q⟩
theorem g_putA (h : H p = some (.ins C' dx fs)) (hl : fs.length < 1000) (e : putF f y fs = fs') (q : nH (upd H p (.ins C' dx fs'))) : putK f C' p y H nH := by
  subst e
  exact ⟨dx, fs, h, hl, q⟩
theorem g_putU (hl : fs.length < 1000) (e : putF f y fs = fs') (q : nH (upd H p (.ins C' dx fs'))) : putK f C' p y (upd H p (.ins C' dx fs)) nH := by
  refine g_putA upd_same hl e ?_
  rw [upd_upd]
  exact q
theorem g_iadd (q : Q (.int (i + j)) H) : L2.rAdd (.int i) (.int j) H Q := ⟨i, j, rfl, rfl, q⟩
theorem g_isub (q : Q (.int (i - j)) H) : L2.rSub (.int i) (.int j) H Q := ⟨i, j, rfl, rfl, q⟩
theorem g_while {tc : TT} {tb : TS} (W : Nat → St → Hp → Prop) (m : Nat) (w0 : W m σ H) (hs : ∀ m σ H, W m σ H → tc σ H fun b H1 => if b = true then whK W m tb n rt σ H1 else n σ H1) : tWhile tc tb ⟨n, rt, bk, ct⟩ σ H :=
  ⟨W, ⟨m, w0⟩, fun m σ H w => hs m σ H w⟩
theorem g_whK {tb : TS} {W : Nat → St → Hp → Prop} {m : Nat} (q : tb ⟨fun σ' H' => ∃ m', m' < m ∧ W m' σ' H', rt, n, fun σ' H' => ∃ m', m' < m ∧ W m' σ' H'⟩ σ H) : whK W m tb n rt σ H := ⟨_, fun _ _ h => h, q⟩
theorem g_asgT {g : TG} (q : te σ H fun x H1 => g x σ H1 n) : tAsg te g ⟨n, rt, bk, ct⟩ σ H := q
theorem g_gname {k : Nat} (q : asgn k n v σ H) : gName k v σ H n := q
theorem g_gtup {k : Nat} {t : TGs} {xs : List V} (h : SqT K H p xs) (hl : xs.length = k) (q : t xs σ H n) : gTup K k t (.ref p) σ H n := ⟨p, xs, rfl, h, hl, q⟩
theorem g_gcons {a : TG} {t : TGs} {xs : List V} (q : a v σ H fun σ1 H1 => t xs σ1 H1 n) : gCons a t (v :: xs) σ H n := ⟨v, xs, rfl, q⟩
theorem g_gnil (q : n σ H) : gNil [] σ H n := ⟨rfl, q⟩
theorem g_gsub {to ti : TE} {t : TSet} (q : to σ H fun o H1 => ti σ H1 fun i H2 => t o i v H2 fun H3 => n σ H3) : gSub to ti t v σ H n := q
theorem g_powE {e : Int} (h : CPow i j) (he : i ^ j.toNat = e) (q : Q (.int e) H) : L2.rI CPow (fun i j => .int (i ^ j.toNat)) (.int i) (.int j) H Q := ⟨i, j, rfl, rfl, h, by subst he; exact q⟩
theorem g_powE' {e : Int} (h : CPow i j) (he : i ^ j.toNat = e) (q : Q (.int e) H) : rPow (.int i) (.int j) H Q := g_powE h he q
theorem g_lshE {e : Int} (h : CShl i j) (he : (2 : Int) ^ j.toNat = e) (q : Q (.int (i * e)) H) : rLsh (.int i) (.int j) H Q := ⟨i, j, rfl, rfl, h, by subst he; exact q⟩
theorem g_rshE {e : Int} (h : 0 ≤ j) (he : (2 : Int) ^ j.toNat = e) (q : Q (.int (i / e)) H) : rRsh (.int i) (.int j) H Q := ⟨i, j, rfl, rfl, h, by subst he; exact q⟩
theorem g_mul (h : (-(2 ^ 64) < i ∧ i < 2 ^ 64) ∨ (-(2 ^ 64) < j ∧ j < 2 ^ 64)) (q : Q (.int (i * j)) H) : rTimes (.int i) (.int j) H Q := g_times (CMul.ok h) q
theorem g_p15 (q : Q (.int 1000000000000000) H) : rPow (.int 10) (.int 15) H Q := g_powE' ⟨by decide, by decide, by decide⟩ (by decide) q
theorem g_p60 (q : Q (.int (10 ^ 60)) H) : rPow (.int 10) (.int 60) H Q := g_powE' ⟨by decide, by decide, by decide⟩ (by decide) q
theorem g_m1 {F : V → Hp → VK → XK → Prop} {a : V} {E : XK} (q : F a H Q E) : on1 F [a] H Q E := ⟨a, rfl, q⟩
theorem g_k1 {F : V → Hp → VK → XK → Prop} {a : V} {E : XK} (q : F a H Q E) : on1 F (a :: ([] ++ [])) H Q E := ⟨a, rfl, q⟩
theorem g_m2 {F : V → V → Hp → VK → XK → Prop} {a b : V} {E : XK} (q : F a b H Q E) : on2 F [a, b] H Q E := ⟨a, b, rfl, q⟩
theorem g_k2 {F : V → V → Hp → VK → XK → Prop} {a b : V} {E : XK} (q : F a b H Q E) : on2 F (a :: ([b] ++ [])) H Q E := ⟨a, b, rfl, q⟩
theorem g_m3 {F : V → V → V → Hp → VK → XK → Prop} {a b c : V} {E : XK} (q : F a b c H Q E) : on3 F [a, b, c] H Q E := ⟨a, b, c, rfl, q⟩
theorem g_k3 {F : V → V → V → Hp → VK → XK → Prop} {a b c : V} {E : XK} (q : F a b c H Q E) : on3 F (a :: ([b, c] ++ [])) H Q E := ⟨a, b, c, rfl, q⟩
theorem g_m4 {F : V → V → V → V → Hp → VK → XK → Prop} {a b c d : V} {E : XK} (q : F a b c d H Q E) : on4 F [a, b, c, d] H Q E := ⟨a, b, c, d, rfl, q⟩
theorem g_k4 {F : V → V → V → V → Hp → VK → XK → Prop} {a b c d : V} {E : XK} (q : F a b c d H Q E) : on4 F (a :: ([b, c, d] ++ [])) H Q E := ⟨a, b, c, d, rfl, q⟩
theorem g_m5 {F : V → V → V → V → V → Hp → VK → XK → Prop} {a b c d e : V} {E : XK} (q : F a b c d e H Q E) : on5 F [a, b, c, d, e] H Q E := ⟨a, b, c, d, e, rfl, q⟩
theorem g_k5 {F : V → V → V → V → V → Hp → VK → XK → Prop} {a b c d e : V} {E : XK} (q : F a b c d e H Q E) : on5 F (a :: ([b, c, d, e] ++ [])) H Q E := ⟨a, b, c, d, e, rfl, q⟩
theorem difNY {c A B : Prop} [Decidable c] (h : c) (q : B) : if (!decide c) = true then A else B := by rw [decide_eq_true h]; exact iteF q
theorem difNX {c A B : Prop} [Decidable c] (h : ¬ c) (q : A) : if (!decide c) = true then A else B := by rw [decide_eq_false h]; exact iteT q
end
theorem at0 {u : V} {r : List V} : atI (u :: r) 0 = some u := atI_nat (j := 0) rfl
theorem at1 {u v : V} {r : List V} : atI (u :: v :: r) 1 = some v := atI_nat (j := 1) rfl
theorem at2 {u v w : V} {r : List V} : atI (u :: v :: w :: r) 2 = some w := atI_nat (j := 2) rfl
theorem at3 {u v w x : V} {r : List V} : atI (u :: v :: w :: x :: r) 3 = some x := atI_nat (j := 3) rfl
/-! ### enumerate -/
def forEK (K : PySem.W.Frag) (g : TG) (tb : TS) (n : St → Hp → Prop) (rt : VK) (σ : St) (vs : List V) (H : Hp) : Prop := ∃ a xs, vs = [.ref a] ∧ SqL K H a xs ∧ forJ (Ite K a) g tb n rt σ H
section
variable {K : PySem.W.Frag} {σ σ' : St} {H H' : Hp} {ta : TA} {tb : TS} {g : TG} {n : St → Hp → Prop} {rt : VK} {bk ct : St → Hp → Prop} {a : Addr} {xs : List V} {m1 m2 : Nat}
theorem g_forE (q : ta σ H fun vs H1 => forEK K g tb n rt σ vs H1) : tFor (iEnum K ta) g tb ⟨n, rt, bk, ct⟩ σ H := q
theorem for_E (hs : SqL K H a xs) (Pv : Nat → St → Hp → Prop) (h0 : Pv 0 σ H) (hl : ∀ i σ H, Pv i σ H → SqL K H a xs)
    (ht : ∀ i x σ H T, xs[i]? = some x → H T = none → Pv i σ H → asgn m1 (fun σ1 H1 => asgn m2 (fun σ2 H2 => tb ⟨Pv (i + 1), rt, n, Pv (i + 1)⟩ σ2 H2) x σ1 H1) (.int (i : Int)) σ (upd H T (.tup [.int (i : Int), x])))
    (hd : ∀ σ H, Pv xs.length σ H → n σ H) : forEK K (gTup K 2 (gCons (gName m1) (gCons (gName m2) gNil))) tb n rt σ [.ref a] H := by
  refine ⟨a, xs, rfl, hs, fun i m σ H => m = xs.length - i ∧ i ≤ xs.length ∧ Pv i σ H, ⟨xs.length, rfl, Nat.zero_le _, h0⟩, ?_⟩
  rintro i m σ H ⟨rfl, hi, p⟩
  by_cases hlt : i < xs.length
  · refine .inr ⟨⟨xs, xs[i], hl i σ H p, List.getElem?_eq_getElem hlt⟩, fun σ' H' => Pv (i + 1) σ' H', fun σ' H' q => ⟨xs.length - (i + 1), by omega, rfl, hlt, q⟩, fun v H' hy => ?_⟩
    obtain ⟨T, x, rfl, nT, rfl, ex⟩ := hy
    have ex := ex xs (hl i σ H p)
    exact ⟨T, [.int (i : Int), x], rfl, stt_of upd_same, rfl, _, _, rfl, _, _, rfl, rfl, ht i x σ H T ex nT p⟩
  · have e : i = xs.length := by omega
    subst e
    exact .inl ⟨⟨xs, hl _ σ H p, Nat.le_refl _⟩, hd σ H p⟩
theorem for_EI {ns : List Int} (hs : SqL K H a (ns.map V.int)) (Pv : Nat → St → Hp → Prop) (h0 : Pv 0 σ H) (hl : ∀ i σ H, Pv i σ H → SqL K H a (ns.map V.int))
    (ht : ∀ i z σ H T, ns[i]? = some z → H T = none → Pv i σ H → asgn m1 (fun σ1 H1 => asgn m2 (fun σ2 H2 => tb ⟨Pv (i + 1), rt, n, Pv (i + 1)⟩ σ2 H2) (.int z) σ1 H1) (.int (i : Int)) σ (upd H T (.tup [.int (i : Int), .int z])))
    (hd : ∀ σ H, Pv ns.length σ H → n σ H) : forEK K (gTup K 2 (gCons (gName m1) (gCons (gName m2) gNil))) tb n rt σ [.ref a] H := by
  refine for_E hs Pv h0 hl (fun i x σ H T hx hT p => ?_) fun σ H p => hd σ H (by rw [List.length_map] at p; exact p)
  obtain ⟨z, hz, rfl⟩ := map_at hx
  exact ht i z σ H T hz hT p
end
/-! ### isinstance of own classes -/
class HasIns (K : PySem.W.Frag) (C : Str) : Prop where
  ha : PySem.W.findIn K (.ref (He.ga K C)) "__class__" = some (some (.builtin "object.__class__"))
  hn : PySem.W.specialIn K (.builtin "object.__class__") "__get__" = some (some (.builtin "getset_descriptor.__get__"))
  ht : PySem.W.takesIn K (.builtin "object.__class__") = some true
  hm : PySem.W.mroIn K (He.ga K C) (.type "object") = some true
class HasKit (K : PySem.W.Frag) (C D : Str) (b : outParam Bool) : Prop where h : PySem.W.kitOne K (.ref (He.ga K C)) (.ref (He.ga K D)) = some b
theorem ty_ins {K : PySem.W.Frag} {H : Hp} {a dx : Addr} {C : Str} {fs : List (Str × V)} [c : HasCls K C] [i : HasIns K C] (h : H a = some (.ins (He.ga K C) dx fs)) : TyX K H (.ref a) (.ref (He.ga K C)) := .base (.ins h c.h i.ha i.hn i.ht i.hm)
theorem g_isiC {K : PySem.W.Frag} {H : Hp} {Q : VK} {a dx : Addr} {C D : Str} {b : Bool} {fs : List (Str × V)} [HasCls K C] [HasIns K C] [k : HasKit K C D b] (h : H a = some (.ins (He.ga K C) dx fs)) (q : Q (.bl b) H) : rIsi2 K [.ref a, .ref (He.ga K D)] H Q :=
  .inl ⟨.ref a, .ref (He.ga K D), .ref (He.ga K C), .ref (He.ga K D), b, rfl, .own _, ty_ins h, k.h, q⟩
/-! ### shifts of 1 -/
theorem g_sh15 {H : Hp} {Q : VK} (q : Q (.int 32768) H) : rLsh (.int 1) (.int 15) H Q := g_lshE (e := 32768) ⟨by decide, by decide⟩ (by decide) (by simpa using q)
theorem g_sh16 {H : Hp} {Q : VK} (q : Q (.int 65536) H) : rLsh (.int 1) (.int 16) H Q := g_lshE (e := 65536) ⟨by decide, by decide⟩ (by decide) (by simpa using q)
theorem g_sh23 {H : Hp} {Q : VK} (q : Q (.int 8388608) H) : rLsh (.int 1) (.int 23) H Q := g_lshE (e := 8388608) ⟨by decide, by decide⟩ (by decide) (by simpa using q)
theorem g_sh24 {H : Hp} {Q : VK} (q : Q (.int 16777216) H) : rLsh (.int 1) (.int 24) H Q := g_lshE (e := 16777216) ⟨by decide, by decide⟩ (by decide) (by simpa using q)
theorem g_sh40 {H : Hp} {Q : VK} (q : Q (.int 1099511627776) H) : rLsh (.int 1) (.int 40) H Q := g_lshE (e := 1099511627776) ⟨by decide, by decide⟩ (by decide) (by simpa using q)
theorem g_sh48 {H : Hp} {Q : VK} (q : Q (.int 281474976710656) H) : rLsh (.int 1) (.int 48) H Q := g_lshE (e := 281474976710656) ⟨by decide, by decide⟩ (by decide) (by simpa using q)
theorem g_p30 {H : Hp} {Q : VK} (q : Q (.int 1000000000000000000000000000000) H) : rPow (.int 10) (.int 30) H Q := g_powE' ⟨by decide, by decide, by decide⟩ (by decide) q
/-! Fo, zip: loops and comprehensions over two lists of ints. -/
def forZK (K : PySem.W.Frag) (g : TG) (tb : TS) (n : St → Hp → Prop) (rt : VK) (σ : St) (vs : List V) (H : Hp) : Prop := ∃ a b xs ys, vs = [.ref a, .ref b] ∧ SqL K H a xs ∧ SqL K H b ys ∧ forJ (Itz K a b) g tb n rt σ H
def lcZK (K : PySem.W.Frag) (g : TG) (tt : TT) (te : TE) (us : List Nat) (σ : St) (vs : List V) (H : Hp) (Q : VK) : Prop := ∃ a b xs ys, vs = [.ref a, .ref b] ∧ SqL K H a xs ∧ SqL K H b ys ∧ lcJ (Itz K a b) g tt te us σ H Q
def eachZ (te : TE) (m1 m2 : Nat) (σ : St) (H1 : Hp) (w c : Int) (y : V) : Prop :=
  ∀ H2 Q, Same H1 H2 → (∀ H3, Same H2 H3 → Q y H3) → asgn m1 (fun σ1 H' => asgn m2 (fun σ2 H'' => te σ2 H'' Q) (.int c) σ1 H') (.int w) ((σ.set m2 none).set m1 none) H2
section
variable {K : PySem.W.Frag} {σ σ' : St} {H H' : Hp} {Q : VK} {te : TE} {ta : TA} {tb : TS} {g : TG} {n : St → Hp → Prop} {rt : VK} {bk ct : St → Hp → Prop} {a b : Addr} {ws cs : List Int} {m1 m2 : Nat} {i : Nat} {x y : V}
theorem g_forZ (q : ta σ H fun vs H1 => forZK K g tb n rt σ vs H1) : tFor (iZip K ta) g tb ⟨n, rt, bk, ct⟩ σ H := q
theorem g_lcZ {tt : TT} {us : List Nat} (q : ta σ H fun vs H1 => lcZK K g tt te us σ vs H1 Q) : tLc (iZip K ta) g tt te us σ H Q := q
theorem zip_at (hw : SqL K H a (ws.map V.int)) (hc : SqL K H b (cs.map V.int)) (hx : ∀ xs, SqL K H a xs → xs[i]? = some x) (hy : ∀ ys, SqL K H b ys → ys[i]? = some y) : ∃ w c, ws[i]? = some w ∧ cs[i]? = some c ∧ x = .int w ∧ y = .int c := by
  obtain ⟨w, ew, rfl⟩ := map_at (hx _ hw)
  obtain ⟨c, ec, rfl⟩ := map_at (hy _ hc)
  exact ⟨w, c, ew, ec, rfl, rfl⟩
theorem for_ZI (hs : SqL K H a (ws.map V.int)) (hc : SqL K H b (cs.map V.int)) (hl : ws.length = cs.length) (Pv : Nat → St → Hp → Prop) (h0 : Pv 0 σ H) (hk : ∀ i σ H, Pv i σ H → SqL K H a (ws.map V.int) ∧ SqL K H b (cs.map V.int))
    (ht : ∀ i w c σ H T, ws[i]? = some w → cs[i]? = some c → H T = none → Pv i σ H → asgn m1 (fun σ1 H1 => asgn m2 (fun σ2 H2 => tb ⟨Pv (i + 1), rt, n, Pv (i + 1)⟩ σ2 H2) (.int c) σ1 H1) (.int w) σ (upd H T (.tup [.int w, .int c])))
    (hd : ∀ σ H, Pv ws.length σ H → n σ H) : forZK K (gTup K 2 (gCons (gName m1) (gCons (gName m2) gNil))) tb n rt σ [.ref a, .ref b] H := by
  refine ⟨a, b, _, _, rfl, hs, hc, fun i m σ H => m = ws.length - i ∧ i ≤ ws.length ∧ Pv i σ H, ⟨ws.length, rfl, Nat.zero_le _, h0⟩, ?_⟩
  rintro i m σ H ⟨rfl, hi, p⟩
  obtain ⟨ka, kb⟩ := hk i σ H p
  by_cases hlt : i < ws.length
  · refine .inr ⟨⟨_, _, .int ws[i], .int (cs[i]'(hl ▸ hlt)), ka, kb, ?_, ?_⟩, fun σ' H' => Pv (i + 1) σ' H', fun σ' H' q => ⟨ws.length - (i + 1), by omega, rfl, hlt, q⟩, fun v H' hy => ?_⟩
    · rw [List.getElem?_map, List.getElem?_eq_getElem hlt]; rfl
    · rw [List.getElem?_map, List.getElem?_eq_getElem (hl ▸ hlt)]; rfl
    obtain ⟨T, x, y, rfl, nT, rfl, ex, ey⟩ := hy
    obtain ⟨w, c, ew, ec, rfl, rfl⟩ := zip_at ka kb ex ey
    exact ⟨T, [.int w, .int c], rfl, stt_of upd_same, rfl, _, _, rfl, _, _, rfl, rfl, ht i w c σ H T ew ec nT p⟩
  · have e : i = ws.length := by omega
    subst e
    exact .inl ⟨⟨_, _, ka, kb, .inl (by rw [List.length_map]; exact Nat.le_refl _)⟩, hd σ H p⟩
theorem wipe2 (hne : m1 ≠ m2) (x y : Option V) : wipe (((wipe σ [m1, m2]).set m1 x).set m2 y) [m1, m2] = wipe σ [m1, m2] := by
  show ((((((σ.set m2 none).set m1 none).set m1 x).set m2 y).set m2 none).set m1 none) = ((σ.set m2 none).set m1 none)
  rw [List.set_set, List.set_set, List.set_comm x none hne, List.set_set, List.set_set]
theorem lc_ZI (hs : SqL K H a (ws.map V.int)) (hc : SqL K H b (cs.map V.int)) (hl : ws.length = cs.length) (hne : m1 ≠ m2) (f : Int → Int → V) (hb : ws.length ≤ 1000000)
    (he : ∀ w c, w ∈ ws → c ∈ cs → eachZ te m1 m2 σ H w c (f w c)) (hq : ∀ D H3, H D = none → Same H H3 → H3 D = some (.lst (List.zipWith f ws cs)) → Q (.ref D) H3) :
    lcZK K (gTup K 2 (gCons (gName m1) (gCons (gName m2) gNil))) tYes te [m1, m2] σ [.ref a, .ref b] H Q := by
  refine ⟨a, b, _, _, rfl, hs, hc, fun D hD => ?_⟩
  refine ⟨fun i k H3 => k = ws.length - i ∧ i ≤ ws.length ∧ Same H H3 ∧ H3 D = some (.lst (List.zipWith f (ws.take i) (cs.take i))), ⟨ws.length, rfl, Nat.zero_le _, same_new (Same.refl _) hD, upd_same⟩, ?_⟩
  rintro i k H3 ⟨rfl, hi, s, e⟩
  have ka := s.seq hs
  have kb := s.seq hc
  by_cases hlt : i < ws.length
  · refine .inr ⟨⟨_, _, .int ws[i], .int (cs[i]'(hl ▸ hlt)), ka, kb, ?_, ?_⟩, fun H4 => Same H H4 ∧ H4 D = some (.lst (List.zipWith f (ws.take (i + 1)) (cs.take (i + 1)))), fun H4 p => ⟨ws.length - (i + 1), by omega, rfl, hlt, p⟩, fun v H4 hy => ?_⟩
    · rw [List.getElem?_map, List.getElem?_eq_getElem hlt]; rfl
    · rw [List.getElem?_map, List.getElem?_eq_getElem (hl ▸ hlt)]; rfl
    obtain ⟨T, x, y, rfl, nT, rfl, ex, ey⟩ := hy
    obtain ⟨w, c, ew, ec, rfl, rfl⟩ := zip_at ka kb ex ey
    refine ⟨T, [.int w, .int c], rfl, stt_of upd_same, rfl, _, _, rfl, _, _, rfl, rfl, wipe2 hne _ _, ?_⟩
    have yes : ∀ {A B : Prop}, A → if true = true then A else B := fun h => iteT h
    refine yes (B := ((fun H2 => Same H H2 ∧ H2 D = some (HO.lst (List.zipWith f (ws.take (i + 1)) (cs.take (i + 1))))) (upd H3 T (.tup [.int w, .int c])))) ?_
    have nTD : D ≠ T := ne_of_none e nT
    refine he w c (List.mem_of_getElem? ew) (List.mem_of_getElem? ec) _ _ (same_new s nT) fun H5 s5 => ⟨List.zipWith f (ws.take i) (cs.take i), s5 _ _ (lk_mut nTD e), ?_, same_mut (Same.trans (same_new s nT) s5) hD, ?_⟩
    · rw [List.length_zipWith, List.length_take]
      refine Nat.lt_of_le_of_lt (m := 1000000) ?_ (by decide)
      omega
    · rw [upd_same, List.take_add_one, List.take_add_one, ew, ec]
      rw [List.zipWith_append (by simp only [List.length_take]; omega)]
      rfl
  · have e1 : i = ws.length := by omega
    subst e1
    rw [List.take_length, List.take_of_length_le (Nat.le_of_eq hl.symm)] at e
    exact .inl ⟨⟨_, _, ka, kb, .inl (by rw [List.length_map]; exact Nat.le_refl _)⟩, hq D H3 hD s e⟩
end
/-! ### ranges with a step -/
def forR3K (g : TG) (tb : TS) (n : St → Hp → Prop) (rt : VK) (σ : St) (vs : List V) (H : Hp) : Prop := ∃ (i j c : Int) (k : Nat), vs = [.int i, .int j, .int c] ∧ RgC i j c k ∧ forJ (Itc i c k) g tb n rt σ H
def lcR3K (g : TG) (tt : TT) (te : TE) (vs : List Nat) (σ : St) (us : List V) (H : Hp) (Q : VK) : Prop := ∃ (i j c : Int) (k : Nat), us = [.int i, .int j, .int c] ∧ RgC i j c k ∧ lcJ (Itc i c k) g tt te vs σ H Q
section
variable {K : PySem.W.Frag} {σ σ' : St} {H H' : Hp} {Q : VK} {te : TE} {ta : TA} {tb : TS} {g : TG} {n : St → Hp → Prop} {rt : VK} {bk ct : St → Hp → Prop} {m k : Nat} {i j c : Int}
theorem g_forR3 (q : ta σ H fun vs H1 => forR3K g tb n rt σ vs H1) : tFor (iRng3 ta) g tb ⟨n, rt, bk, ct⟩ σ H := q
theorem g_lcR3 {tt : TT} {vs : List Nat} (q : ta σ H fun us H1 => lcR3K g tt te vs σ us H1 Q) : tLc (iRng3 ta) g tt te vs σ H Q := q
theorem for_R3 (hr : RgC i j c k) (Pv : Nat → St → Hp → Prop) (h0 : Pv 0 σ H)
    (ht : ∀ (l : Nat) σ H, l < k → Pv l σ H → asgn m (fun σ2 H2 => tb ⟨Pv (l + 1), rt, n, Pv (l + 1)⟩ σ2 H2) (.int (i + (l : Int) * c)) σ H) (hd : ∀ σ H, Pv k σ H → n σ H) : forR3K (gName m) tb n rt σ [.int i, .int j, .int c] H := by
  refine ⟨i, j, c, k, rfl, hr, fun l mm σ H => mm = k - l ∧ l ≤ k ∧ Pv l σ H, ⟨k, rfl, Nat.zero_le _, h0⟩, ?_⟩
  rintro l mm σ H ⟨rfl, hl, p⟩
  by_cases hlt : l < k
  · refine .inr ⟨hlt, fun σ' H' => Pv (l + 1) σ' H', fun σ' H' q => ⟨k - (l + 1), by omega, rfl, hlt, q⟩, fun v H' hy => ?_⟩
    obtain ⟨rfl, rfl⟩ := hy
    exact ht l σ _ hlt p
  · have e : l = k := by omega
    subst e
    exact .inl ⟨Nat.le_refl _, hd σ H p⟩
theorem lc_R3 (hr : RgC i j c k) (f : Nat → V) (hl : k ≤ 1000000) (he : ∀ l, l < k → ∀ D, eachK te m σ H D (.int (i + (l : Int) * c)) (f l)) (hq : ∀ D H3, H D = none → Same H H3 → H3 D = some (.lst ((List.range k).map f)) → Q (.ref D) H3) :
    lcR3K (gName m) tYes te [m] σ [.int i, .int j, .int c] H Q := by
  refine ⟨i, j, c, k, rfl, hr, fun D hD => ?_⟩
  refine ⟨fun l kk H3 => kk = k - l ∧ l ≤ k ∧ Same H H3 ∧ H3 D = some (.lst ((List.range l).map f)), ⟨k, rfl, Nat.zero_le _, same_new (Same.refl _) hD, upd_same⟩, ?_⟩
  rintro l kk H3 ⟨rfl, hlk, s, e⟩
  by_cases hlt : l < k
  · refine .inr ⟨hlt, fun H4 => Same H H4 ∧ H4 D = some (.lst ((List.range (l + 1)).map f)), fun H4 p => ⟨k - (l + 1), by omega, rfl, hlt, p⟩, fun v H4 hy => ?_⟩
    obtain ⟨rfl, rfl⟩ := hy
    refine ⟨wipe1 _, ?_⟩
    have yes : ∀ {A B : Prop}, A → if true = true then A else B := fun h => iteT h
    refine yes (B := ((fun H2 => Same H H2 ∧ H2 D = some (HO.lst ((List.range (l + 1)).map f))) H4)) ?_
    refine he l hlt D H4 _ s fun H5 s5 => ⟨(List.range l).map f, s5 _ _ e, ?_, same_mut (Same.trans s s5) hD, ?_⟩
    · rw [List.length_map, List.length_range]
      exact Nat.lt_of_le_of_lt (m := 1000000) (by omega) (by decide)
    · rw [upd_same, List.range_succ, List.map_append]
      rfl
  · have e1 : l = k := by omega
    subst e1
    exact .inl ⟨Nat.le_refl _, hq D H3 hD s e⟩
end
theorem g_mask1 {i : Int} {H : Hp} {Q : VK} (q : Q (.int (i % 2)) H) : rMask (.int i) (.int 1) H Q := ⟨i, 1, rfl, by decide, q⟩
theorem g_extend {H : Hp} {Q : VK} {p r : Addr} {xs ys : List V} (h : H p = some (.lst xs)) (k : H r = some (.lst ys)) (hl : xs.length + ys.length ≤ sizeLine) (q : Q .non (upd H p (.lst (xs ++ ys)))) : rExtend (.ref p) [.ref r] H Q :=
  ⟨p, r, xs, ys, rfl, rfl, h, k, hl, q⟩
/-! ### comprehensions whose elements are new things: each is related to its item -/
section
variable {K : PySem.W.Frag} {σ : St} {H : Hp} {Q : VK} {te : TE} {m : Nat} {a : Addr} {ns : List Int}
theorem lc_LR (hs : SqL K H a (ns.map V.int)) (R : Int → V → Hp → Prop) (mono : ∀ z y H0 H1 D zs, H0 D = some (.lst zs) → SameX (· = D) H0 H1 → R z y H0 → R z y H1) (hl : ns.length ≤ 1000000)
    (he : ∀ z, z ∈ ns → ∀ H2 Q2, Same H H2 → (∀ y H3, Same H2 H3 → R z y H3 → Q2 y H3) → asgn m (fun σ2 H2 => te σ2 H2 Q2) (.int z) (σ.set m none) H2)
    (hq : ∀ D H3 ys, H D = none → Same H H3 → H3 D = some (.lst ys) → ys.length = ns.length → (∀ (i : Nat) z y, ns[i]? = some z → ys[i]? = some y → R z y H3) → Q (.ref D) H3) :
    lcLK K (gName m) tYes te [m] σ (.ref a) H Q := by
  refine ⟨a, rfl, ⟨_, hs⟩, fun D hD => ?_⟩
  refine ⟨fun i k H3 => k = ns.length - i ∧ i ≤ ns.length ∧ Same H H3 ∧ ∃ ys, H3 D = some (.lst ys) ∧ ys.length = i ∧ ∀ (j : Nat) z y, ns[j]? = some z → ys[j]? = some y → R z y H3, ⟨ns.length, rfl, Nat.zero_le _, same_new (Same.refl _) hD, [], upd_same, rfl, fun j z y _ h => by simp at h⟩, ?_⟩
  rintro i k H3 ⟨rfl, hi, s, ys, e, yl, hr⟩
  have ka := s.seq hs
  by_cases hlt : i < ns.length
  · refine .inr ⟨⟨_, .int ns[i], ka, by rw [List.getElem?_map, List.getElem?_eq_getElem hlt]; rfl⟩, fun H4 => Same H H4 ∧ ∃ ys, H4 D = some (.lst ys) ∧ ys.length = i + 1 ∧ ∀ (j : Nat) z y, ns[j]? = some z → ys[j]? = some y → R z y H4, fun H4 p => ⟨ns.length - (i + 1), by omega, rfl, hlt, p⟩, fun v H4 hy => ?_⟩
    obtain ⟨rfl, ex⟩ := hy
    obtain ⟨z, ez, rfl⟩ := map_at (ex _ ka)
    refine ⟨wipe1 _, ?_⟩
    have yes : ∀ {A B : Prop}, A → if true = true then A else B := fun h => iteT h
    refine yes (B := ((fun H4 => Same H H4 ∧ ∃ ys, H4 D = some (HO.lst ys) ∧ ys.length = i + 1 ∧ ∀ (j : Nat) z y, ns[j]? = some z → ys[j]? = some y → R z y H4) H4)) ?_
    refine he z (List.mem_of_getElem? ez) H4 _ s fun y H5 s5 ry => ⟨ys, s5 _ _ e, Nat.lt_of_le_of_lt (m := 1000000) (by omega) (by decide), same_mut (Same.trans s s5) hD, ys ++ [y], upd_same, by rw [List.length_append, yl]; rfl, fun j z' y' hz' hy' => ?_⟩
    have X : SameX (· = D) H5 (upd H5 D (.lst (ys ++ [y]))) := (SameX.refl H5).mut rfl
    rcases Nat.lt_or_ge j i with c | c
    · rw [List.getElem?_append_left (by omega)] at hy'
      exact mono _ _ _ _ D ys (s5 _ _ e) X (mono _ _ _ _ D ys e (SameX.of s5) (hr j z' y' hz' hy'))
    · have ej : j = i := by
        have h2 := (List.getElem?_eq_some_iff.mp hy').1
        rw [List.length_append, yl, List.length_singleton] at h2
        omega
      subst ej
      rw [List.getElem?_append_right (by omega), yl, Nat.sub_self] at hy'
      rw [ez] at hz'
      cases hz'
      cases hy'
      exact mono _ _ _ _ D ys (s5 _ _ e) X ry
  · have e1 : i = ns.length := by omega
    subst e1
    exact .inl ⟨⟨_, ka, by rw [List.length_map]; exact Nat.le_refl _⟩, hq D H3 ys hD s e yl hr⟩
end
/-! Fo, comprehensions by what holds at each turn; with a test. -/
section
variable {K : PySem.W.Frag} {σ : St} {H : Hp} {Q : VK} {te : TE} {ta : TA} {tt : TT} {g : TG} {m : Nat} {a : Addr} {xs : List V} {i j : Int} {k : Nat}
/-- over anything, by what holds of the new list and all that is done so far -/
theorem lc_LN (hs : SqL K H a xs) (hl : xs.length ≤ 1000000) (I : Addr → Nat → List V → Hp → Prop) (h0 : ∀ D, H D = none → I D 0 [] (upd H D (.lst [])))
    (hk : ∀ D i ys H2, I D i ys H2 → SqL K H2 a xs ∧ H2 D = some (.lst ys) ∧ ys.length = i)
    (he : ∀ D i x ys H2 Q2, xs[i]? = some x → I D i ys H2 → (∀ y H4, H4 D = some (.lst ys) → I D (i + 1) (ys ++ [y]) (upd H4 D (.lst (ys ++ [y]))) → Q2 y H4) → asgn m (fun σ2 H2 => te σ2 H2 Q2) x (σ.set m none) H2)
    (hq : ∀ D ys H3, I D xs.length ys H3 → Q (.ref D) H3) : lcLK K (gName m) tYes te [m] σ (.ref a) H Q := by
  refine ⟨a, rfl, ⟨_, hs⟩, fun D hD => ?_⟩
  refine ⟨fun i k H3 => k = xs.length - i ∧ i ≤ xs.length ∧ ∃ ys, I D i ys H3, ⟨xs.length, rfl, Nat.zero_le _, [], h0 D hD⟩, ?_⟩
  rintro i k H3 ⟨rfl, hi, ys, hI⟩
  obtain ⟨ka, e, yl⟩ := hk D i ys H3 hI
  by_cases hlt : i < xs.length
  · refine .inr ⟨⟨_, xs[i], ka, List.getElem?_eq_getElem hlt⟩, fun H4 => ∃ ys, I D (i + 1) ys H4, fun H4 p => ⟨xs.length - (i + 1), by omega, rfl, hlt, p⟩, fun v H4 hy => ?_⟩
    obtain ⟨rfl, ex⟩ := hy
    have ex := ex _ ka
    refine ⟨wipe1 _, ?_⟩
    have yes : ∀ {A B : Prop}, A → if true = true then A else B := fun h => iteT h
    refine yes (B := ((fun H4 => ∃ ys, I D (i + 1) ys H4) H4)) ?_
    exact he D i v ys H4 _ ex hI fun y H5 e5 I5 => ⟨ys, e5, Nat.lt_of_le_of_lt (m := 1000000) (by omega) (by decide), ys ++ [y], I5⟩
  · have e1 : i = xs.length := by omega
    subst e1
    exact .inl ⟨⟨_, ka, Nat.le_refl _⟩, hq D ys H3 hI⟩
/-- over 0 .. k -/
theorem lc_R1N (hk : j = (k : Int)) (hl : k ≤ 1000000) (I : Addr → Nat → List V → Hp → Prop) (h0 : ∀ D, H D = none → I D 0 [] (upd H D (.lst [])))
    (hI : ∀ D i ys H2, I D i ys H2 → H2 D = some (.lst ys) ∧ ys.length = i)
    (he : ∀ D i ys H2 Q2, i < k → I D i ys H2 → (∀ y H4, H4 D = some (.lst ys) → I D (i + 1) (ys ++ [y]) (upd H4 D (.lst (ys ++ [y]))) → Q2 y H4) → asgn m (fun σ2 H2 => te σ2 H2 Q2) (.int (i : Int)) (σ.set m none) H2)
    (hq : ∀ D ys H3, I D k ys H3 → Q (.ref D) H3) : lcR1K (gName m) tYes te [m] σ [.int j] H Q := by
  subst hk
  refine ⟨k, rfl, by omega, by omega, fun D hD => ?_⟩
  refine ⟨fun i n H3 => n = k - i ∧ i ≤ k ∧ ∃ ys, I D i ys H3, ⟨k, rfl, Nat.zero_le _, [], h0 D hD⟩, ?_⟩
  rintro i n H3 ⟨rfl, hi, ys, hI3⟩
  obtain ⟨e, yl⟩ := hI D i ys H3 hI3
  by_cases hlt : i < k
  · refine .inr ⟨by show i < (k : Int).toNat; simpa using hlt, fun H4 => ∃ ys, I D (i + 1) ys H4, fun H4 p => ⟨k - (i + 1), by omega, rfl, hlt, p⟩, fun v H4 hy => ?_⟩
    obtain ⟨rfl, rfl⟩ := hy
    refine ⟨wipe1 _, ?_⟩
    have yes : ∀ {A B : Prop}, A → if true = true then A else B := fun h => iteT h
    refine yes (B := ((fun H4 => ∃ ys, I D (i + 1) ys H4) H4)) ?_
    rw [show (0 : Int) + (i : Int) = (i : Int) by omega]
    exact he D i ys H4 _ hlt hI3 fun y H5 e5 I5 => ⟨ys, e5, Nat.lt_of_le_of_lt (m := 1000000) (by omega) (by decide), ys ++ [y], I5⟩
  · have e1 : i = k := by omega
    subst e1
    exact .inl ⟨by show (i : Int).toNat ≤ i; simp, hq D ys H3 hI3⟩
/-- with a test, over an iteration of ints from i -/
theorem lc_testJ {J : It} (b : Int) (hg : ∀ i H, i < k → J.go i H) (hy : ∀ i H x H2, J.yld i H x H2 → H2 = H ∧ x = .int (b + (i : Int))) (hs : ∀ H, J.stop k H) (hl : k ≤ 1000000) (p : Nat → Bool) (f : Nat → V)
    (he : ∀ i, i < k → ∀ H2 (A : V → Hp → Prop) (B : Hp → Prop), Same H H2 → (p i = true → ∀ H3, Same H2 H3 → A (f i) H3) → (p i = false → ∀ H3, Same H2 H3 → B H3) →
      asgn m (fun σ2 H2 => tt σ2 H2 fun b H3 => if b = true then te σ2 H3 A else B H3) (.int (b + (i : Int))) (σ.set m none) H2)
    (hq : ∀ D H3, H D = none → Same H H3 → H3 D = some (.lst (((List.range k).filter p).map f)) → Q (.ref D) H3) : lcJ J (gName m) tt te [m] σ H Q := by
  intro D hD
  refine ⟨fun i n H3 => n = k - i ∧ i ≤ k ∧ Same H H3 ∧ H3 D = some (.lst (((List.range i).filter p).map f)), ⟨k, rfl, Nat.zero_le _, same_new (Same.refl _) hD, upd_same⟩, ?_⟩
  rintro i n H3 ⟨rfl, hi, s, e⟩
  by_cases hlt : i < k
  · refine .inr ⟨hg i H3 hlt, fun H4 => Same H H4 ∧ H4 D = some (.lst (((List.range (i + 1)).filter p).map f)), fun H4 q => ⟨k - (i + 1), by omega, rfl, hlt, q⟩, fun v H4 hyy => ?_⟩
    obtain ⟨rfl, rfl⟩ := hy _ _ _ _ hyy
    refine ⟨wipe1 _, ?_⟩
    refine he i hlt H4 _ _ s (fun hp H5 s5 => ⟨((List.range i).filter p).map f, s5 _ _ e, ?_, same_mut (Same.trans s s5) hD, ?_⟩) fun hp H5 s5 => ⟨Same.trans s s5, ?_⟩
    · rw [List.length_map]
      have := List.length_filter_le p (List.range i)
      rw [List.length_range] at this
      exact Nat.lt_of_le_of_lt (m := 1000000) (by omega) (by decide)
    · rw [upd_same, List.range_succ, List.filter_append, List.map_append]
      simp [hp]
    · rw [s5 _ _ e, List.range_succ, List.filter_append, List.map_append]
      simp [hp]
  · have e1 : i = k := by omega
    subst e1
    exact .inl ⟨hs H3, hq D H3 hD s e⟩
theorem lc_R1F (hk : j = (k : Int)) (hl : k ≤ 1000000) (p : Nat → Bool) (f : Nat → V)
    (he : ∀ i, i < k → ∀ H2 (A : V → Hp → Prop) (B : Hp → Prop), Same H H2 → (p i = true → ∀ H3, Same H2 H3 → A (f i) H3) → (p i = false → ∀ H3, Same H2 H3 → B H3) →
      asgn m (fun σ2 H2 => tt σ2 H2 fun b H3 => if b = true then te σ2 H3 A else B H3) (.int (0 + (i : Int))) (σ.set m none) H2)
    (hq : ∀ D H3, H D = none → Same H H3 → H3 D = some (.lst (((List.range k).filter p).map f)) → Q (.ref D) H3) : lcR1K (gName m) tt te [m] σ [.int j] H Q := by
  subst hk
  refine ⟨k, rfl, by omega, by omega, lc_testJ (J := Itr 0 (k : Int).toNat) 0 (fun i H hi => by show i < (k : Int).toNat; simpa using hi) (fun i H x H2 y => y) (fun H => by show (k : Int).toNat ≤ k; simp) hl p f he hq⟩
def lcR2K (g : TG) (tt : TT) (te : TE) (vs : List Nat) (σ : St) (us : List V) (H : Hp) (Q : VK) : Prop := ∃ i j : Int, us = [.int i, .int j] ∧ (-(2 ^ 62) ≤ i ∧ i < 2 ^ 62 ∧ -(2 ^ 62) ≤ j ∧ j < 2 ^ 62) ∧ lcJ (Itr i (j - i).toNat) g tt te vs σ H Q
theorem g_lcR2 {vs : List Nat} (q : ta σ H fun us H1 => lcR2K g tt te vs σ us H1 Q) : tLc (iRng2 ta) g tt te vs σ H Q := q
theorem lc_R2F (hk : (j - i).toNat = k) (hb : -(2 ^ 62) ≤ i ∧ i < 2 ^ 62 ∧ -(2 ^ 62) ≤ j ∧ j < 2 ^ 62) (hl : k ≤ 1000000) (p : Nat → Bool) (f : Nat → V)
    (he : ∀ l, l < k → ∀ H2 (A : V → Hp → Prop) (B : Hp → Prop), Same H H2 → (p l = true → ∀ H3, Same H2 H3 → A (f l) H3) → (p l = false → ∀ H3, Same H2 H3 → B H3) →
      asgn m (fun σ2 H2 => tt σ2 H2 fun b H3 => if b = true then te σ2 H3 A else B H3) (.int (i + (l : Int))) (σ.set m none) H2)
    (hq : ∀ D H3, H D = none → Same H H3 → H3 D = some (.lst (((List.range k).filter p).map f)) → Q (.ref D) H3) : lcR2K (gName m) tt te [m] σ [.int i, .int j] H Q := by
  subst hk
  exact ⟨i, j, rfl, hb, lc_testJ (J := Itr i (j - i).toNat) i (fun l H hl => hl) (fun l H x H2 y => y) (fun H => Nat.le_refl _) hl p f he hq⟩
end
/-! ### and, of any two ints -/
def rBits : R2 := rI0 fun i j => .int (Builtin.bitAnd i j)
theorem o_bits {X : Cx} : OpR X (binaryOp .BitAnd) rBits := op_and
theorem g_bitand {i j : Int} {H : Hp} {Q : VK} (q : Q (.int (Builtin.bitAnd i j)) H) : rBits (.int i) (.int j) H Q := ⟨i, j, rfl, rfl, q⟩
theorem ixN_nat {n k : Nat} (h : k < n) : ixN n (k : Int) = some k := by
  unfold ixN
  rw [if_pos (by omega), if_pos (by omega)]
  rfl
theorem g_setL {H : Hp} {p : Addr} {xs : List V} {n : Nat} {v : V} {nH : Hp → Prop} (h : H p = some (.lst xs)) (hn : n < xs.length) (q : nH (upd H p (.lst (xs.set n v)))) : rSetL (.ref p) (.int (n : Int)) v H nH := ⟨p, xs, n, n, rfl, rfl, h, ixN_nat hn, q⟩
theorem g_on31 {F : V → V → V → Hp → VK → XK → Prop} {a b c : V} {H : Hp} {Q : VK} {E : XK} (q : F a b c H Q E) : on3 F ([a, b] ++ [c]) H Q E := ⟨a, b, c, rfl, q⟩
theorem g_on42 {F : V → V → V → V → Hp → VK → XK → Prop} {a b c d : V} {H : Hp} {Q : VK} {E : XK} (q : F a b c d H Q E) : on4 F ([a, b] ++ [c, d]) H Q E := ⟨a, b, c, d, rfl, q⟩
theorem g_on41 {F : V → V → V → V → Hp → VK → XK → Prop} {a b c d : V} {H : Hp} {Q : VK} {E : XK} (q : F a b c d H Q E) : on4 F ([a, b, c] ++ [d]) H Q E := ⟨a, b, c, d, rfl, q⟩
/-! Fo, try: one clause 'except C as e', its suite asks of which class e is. -/
def rIsET (K : PySem.W.Frag) (D a : Addr) : List V → Hp → VK → Prop := fun xs H Q => ∃ (tp : Addr) (cs : List V) (ws : List Value) (b : Bool), xs = [.ref a, .ref tp] ∧ H tp = some (.tup cs) ∧ Paired ClsV cs ws ∧ PySem.W.kitAny K (.ref D) ws = some b ∧ Q (.bl b) H
theorem call_isET {X : Cx} {a D : Addr} {oe : Obj} {pn : List (Addr × Obj)} (C : ExcC X.K D) (hz : Zc (.ref D) none oe) (hf : ∃ vs, oe.data = .fields vs) : CallR (X.suite a ((a, oe) :: pn)) (.builtin "isinstance") (rIsET X.K D a) := by
  intro pins s σ H xs us Q I r h
  obtain ⟨tp, cs, ws, b, rfl, hT, k, e, q⟩ := h
  obtain ⟨u1, u2, rfl, r1, r2⟩ := vals2 r
  cases (show u2 = Value.ref tp from r2)
  cases (show u1 = Value.ref a from r1)
  obtain ⟨_, its, rv, o, h1, h2, n, h3⟩ := (show ObjOk X.prog X.w H s.heap tp (.tup cs) from I.hok tp _ hT)
  have e3 := ClsV.all k rv
  subst e3
  obtain ⟨oc, od, dt, sl⟩ := o
  simp only at h2 h3
  subst h2 h3
  obtain ⟨hget, _⟩ := I.pin (a, oe) (List.mem_append.mpr (.inl List.mem_cons_self))
  obtain ⟨vs, hv⟩ := hf
  have J : PySem.W.InstAt s.heap a oe D none := by
    obtain ⟨oc, od, oda, osl⟩ := oe
    obtain ⟨h1, h2⟩ := hz
    dsimp only at h1 h2 hv
    subst h1 h2 hv
    exact ⟨hget, rfl, rfl, trivial⟩
  exact PySem.W.kia_tup (PySem.W.handS_kitx_exc C.hg C.hk C.hs C.hd C.ha C.hn C.ht C.hm) I.kIn J h1 e (fun z => nomatch z) fun tk => ⟨.bl b, H, I.tok tk, rfl, q⟩
def rIsEx (K : PySem.W.Frag) (D a : Addr) : List V → Hp → VK → Prop := fun xs H Q => rIsE K D a xs H Q ∨ rIsET K D a xs H Q
theorem c_isx {X : Cx} {a D : Addr} {oe : Obj} {pn : List (Addr × Obj)} (C : ExcC X.K D) (hz : Zc (.ref D) none oe) (hf : ∃ vs, oe.data = .fields vs) : CallR (X.suite a ((a, oe) :: pn)) (.builtin "isinstance") (rIsEx X.K D a) := orCall (call_isE C hz hf) (call_isET C hz hf)
/-- the suite, asked of an exception of an own class without a dict -/
def tEx (K : PySem.W.Frag) (ts : Addr → Addr → TS) : Addr → Value → Option Addr → TS := fun a cls d Dd σ H => ∃ D, cls = .ref D ∧ d = none ∧ ExcC K D ∧ ts a D Dd σ H
def tTry (K : PySem.W.Frag) (c : Value) (i : Nat) (tb : WX → TS) (ts : Addr → Addr → TS) (Wout : WX) : TS := fun D σ H => tb (wAs K c i (tEx K ts) Wout D) D σ H
section
variable {X : Cx} {x n : Str} {c : Value} {i : Nat} {body suite : List Stmt} {b₀ : Stmt} {np pos pos' : Pos} {tb : WX → TS} {ts : Addr → Addr → TS} {Wout : WX}
theorem ps_tryX (hs : X.stack = X.env :: X.outer) (hf : X.env.frame = some X.env.locals) (hN : X.N.Nodup) (hi : X.N[i]? = some n) (hln : X.env.kindOf n = some .local) (hc : Names X x c) (tk : Takes X Wout)
    (hb : ∀ (W : WX) (pn : List (Addr × Obj)) (xe : Value → Shared → Prop), Takes (X.tr pn xe) W → PassesOwn (model X.prog X.w) X.A X.env xe → PSs (X.tr pn xe) body (tb W))
    (hsu : ∀ (a : Addr) (oe : Obj) (D : Addr) (pn : List (Addr × Obj)), Zc (.ref D) none oe → (∃ vs, oe.data = .fields vs) → ExcC X.K D → PSs (X.suite a ((a, oe) :: pn)) (b₀ :: suite) (ts a D)) :
    PS X (.Try body [.ExceptHandler (some (.Name x np)) (some n) (b₀ :: suite) pos'] [] [] pos) (tTry X.K c i tb ts Wout) :=
  ps_try_as hs hf hN hi hln hc tk hb fun a oe cls d pn hz hfd => ⟨fun pins s σ H Dd I h => by
    obtain ⟨D, rfl, rfl, C, h⟩ := h
    exact (hsu a oe D pn hz hfd C).run pins s σ H Dd I h⟩
end
class HasExc (K : PySem.W.Frag) (C : Str) : Prop where h : ExcC K (He.ga K C)
class HasExm (K : PySem.W.Frag) (C D : Str) (b : outParam Bool) : Prop where h : PySem.W.exmOne K (.ref (He.ga K C)) (.ref (He.ga K D)) = some b
class HasKitT (K : PySem.W.Frag) (C : Str) (t : String) (b : outParam Bool) : Prop where h : PySem.W.kitOne K (.ref (He.ga K C)) (.type t) = some b
def unset (i : Nat) (n : St → Hp → Prop) : St → Hp → Prop := fun σ H => n (σ.set i none) H
section
variable {K : PySem.W.Frag} {σ σ' : St} {H : Hp} {Q : VK} {c : Value} {i : Nat} {tb : WX → TS} {ts : Addr → Addr → TS} {Wout : WX} {n : St → Hp → Prop} {rt : VK} {bk ct : St → Hp → Prop} {C D : Str} {a : Addr} {b : Bool}
theorem g_try (q : tb (wAs K c i (tEx K ts) Wout ⟨n, rt, bk, ct⟩) ⟨n, rt, bk, ct⟩ σ H) : tTry K c i tb ts Wout ⟨n, rt, bk, ct⟩ σ H := q
/-- what is raised is caught -/
theorem g_caught (e : HasExc K C) (m : HasExm K C D true) (q : ∀ a, H a = none → asgn i (fun σ1 H1 => ts a (He.ga K C) ⟨unset i n, rt, unset i bk, unset i ct⟩ σ1 H1) (.ref a) σ H) :
    wAs K (.ref (He.ga K D)) i (tEx K ts) Wout ⟨n, rt, bk, ct⟩ (.ref (He.ga K C)) none σ H :=
  ⟨true, m.h, fun _ a ha => ⟨He.ga K C, rfl, rfl, e.h, q a ha⟩, fun z => nomatch z⟩
theorem g_we {W : WX} {cls : Value} {d : Option Addr} (q : W cls d σ H) : WE W σ cls d H := q
theorem g_unset (r : SetR σ i none σ') (q : n σ' H) : unset i n σ H := by
  unfold unset
  rw [r.eq]
  exact q
theorem g_isx1 (k : HasKit K C D b) (q : Q (.bl b) H) : rIsEx K (He.ga K C) a [.ref a, .ref (He.ga K D)] H Q := .inl ⟨.ref (He.ga K D), .ref (He.ga K D), b, rfl, fun u r => r, k.h, q⟩
theorem g_isxT {t : String} (k : HasKitT K C t b) (q : Q (.bl b) H) : rIsEx K (He.ga K C) a [.ref a, .ty t] H Q := .inl ⟨.ty t, .type t, b, rfl, fun u r => r, k.h, q⟩
/-- classes whose answer is no -/
inductive NoneOf (K : PySem.W.Frag) (C : Str) : List V → List Value → Prop
  | nil : NoneOf K C [] []
  | cons {D : Str} {vs : List V} {us : List Value} (k : HasKit K C D false) (h : NoneOf K C vs us) : NoneOf K C (.ref (He.ga K D) :: vs) (.ref (He.ga K D) :: us)
theorem NoneOf.pair {vs : List V} {us : List Value} (h : NoneOf K C vs us) : Paired ClsV vs us ∧ PySem.W.kitAny K (.ref (He.ga K C)) us = some false := by
  induction h with
  | nil => exact ⟨.nil, kitAny_nil⟩
  | cons k h ih => exact ⟨.cons (.own _) ih.1, kitAny_cons k.h (fun _ => ih.2) (fun z => nomatch z)⟩
theorem g_isx0 {tp : Addr} {vs : List V} {us : List Value} (h : H tp = some (.tup vs)) (k : NoneOf K C vs us) (q : Q (.bl false) H) : rIsEx K (He.ga K C) a [.ref a, .ref tp] H Q := .inr ⟨tp, vs, us, false, rfl, h, k.pair.1, k.pair.2, q⟩
end
/-! ### one clause 'except C' without a name; several of them -/
def tTryO (K : PySem.W.Frag) (c : Value) (tb : WX → TS) (ts : TS) (Wout : WX) : TS := fun D σ H => tb (wOnly K c (fun _ _ _ => ts) Wout D) D σ H
section
variable {X : Cx} {x : Str} {c : Value} {body suite : List Stmt} {b₀ : Stmt} {np pos pos' : Pos} {tb : WX → TS} {ts : TS} {Wout : WX}
theorem ps_tryO (hs : X.stack = X.env :: X.outer) (hf : X.env.frame = some X.env.locals) (hc : Names X x c) (tk : Takes X Wout)
    (hb : ∀ (W : WX) (pn : List (Addr × Obj)) (xe : Value → Shared → Prop), Takes (X.tr pn xe) W → PassesOwn (model X.prog X.w) X.A X.env xe → PSs (X.tr pn xe) body (tb W))
    (hsu : ∀ (a : Addr) (oe : Obj) (pn : List (Addr × Obj)), PSs (X.suite a ((a, oe) :: pn)) (b₀ :: suite) ts) :
    PS X (.Try body [.ExceptHandler (some (.Name x np)) none (b₀ :: suite) pos'] [] [] pos) (tTryO X.K c tb ts Wout) :=
  ps_try_only (ts := fun _ _ _ => ts) hs hf hc tk hb fun a oe _ _ pn _ _ => hsu a oe pn
end
section
variable {K : PySem.W.Frag} {σ : St} {H : Hp} {c : Value} {tb : WX → TS} {ts : TS} {Wout : WX} {n : St → Hp → Prop} {rt : VK} {bk ct : St → Hp → Prop} {C D : Str}
theorem g_tryO (q : tb (wOnly K c (fun _ _ _ => ts) Wout ⟨n, rt, bk, ct⟩) ⟨n, rt, bk, ct⟩ σ H) : tTryO K c tb ts Wout ⟨n, rt, bk, ct⟩ σ H := q
theorem g_caughtO (m : HasExm K C D true) (q : ts ⟨n, rt, bk, ct⟩ σ H) : wOnly K (.ref (He.ga K D)) (fun _ _ _ => ts) Wout ⟨n, rt, bk, ct⟩ (.ref (He.ga K C)) none σ H :=
  ⟨true, m.h, fun _ _ _ => q, fun z => nomatch z⟩
theorem g_passedO (m : HasExm K C D false) (q : Wout (.ref (He.ga K C)) none σ H) : wOnly K (.ref (He.ga K D)) (fun _ _ _ => ts) Wout ⟨n, rt, bk, ct⟩ (.ref (He.ga K C)) none σ H :=
  ⟨false, m.h, fun z => (nomatch z), fun _ => q⟩
end
/-! Fo, comprehensions whose element may raise: the exception flies out of the comprehension, at the slots ahead of it. -/
theorem noteFrame_frame {e : Value} {a b : Env} (h : a.frame = b.frame) : noteFrame e a = noteFrame e b := by
  unfold noteFrame PySem.frameOf
  rw [h]
theorem frames_but {B B' h h' : Heap} {C : Addr} (hB : ∀ b, B.get? b = none → B'.get? b = none) (same : ∀ b, b ≠ C → h'.get? b = h.get? b) : ∀ {l : List Env}, C ∉ frs l → h.FunFrames B l → h'.FunFrames B' l
  | [], _, _ => trivial
  | env :: l, hC, ⟨k, ⟨L, o, hf, hb, hh, hn⟩, r⟩ => by
    have nL : L ≠ C := fun z => hC (List.mem_filterMap.mpr ⟨env, List.mem_cons_self, by rw [hf, z]⟩)
    exact ⟨k, ⟨L, o, hf, hB L hb, (same L nL).trans hh, hn⟩, frames_but hB same (fun hm => hC (by
      obtain ⟨e, he, q⟩ := List.mem_filterMap.mp hm
      exact List.mem_filterMap.mpr ⟨e, List.mem_cons_of_mem _ he, q⟩)) r⟩
/-- the context of a comprehension's block whose element may raise: what is raised is noted, the block's names go, then it flies on -/
abbrev blkX (X : Cx) (s3 : Shared) (H3 : Hp) (scope : Scope) (ce : Env) (fp : List Addr) (R : Result → Shared → Prop) : Cx := { X.blk s3 H3 scope ce fp with xe := notedBy (model X.prog X.w) X.A ce fun e s' => R (.error e) s' }
section
variable {X : Cx} {W : WX}
theorem blk_out {pins : List (Addr × Obj)} {σ : St} {H3 : Hp} {s3 : Shared} {scope : Scope} {ce : Env} {fp : List Addr} {R : Result → Shared → Prop}
    (hs : X.stack = X.env :: X.outer) (hf : X.env.frame = some X.env.locals) (tk : Takes X W) (I3 : Inv X pins σ H3 s3) (cf : ce.frame = X.env.frame) (cL : ce.locals = s3.heap.objs.size)
    (f3 : ∀ b ∈ fp, FpOk X pins H3 b ∧ b < s3.heap.objs.size) (hR : ∀ e s', CompFails (model X.prog X.w) X.A X.xe ce e s' → R (.error e) s') :
    Out (blkX X s3 H3 scope ce fp R) (fun _ => WE W σ) := by
  intro σ' pins' H s e s' IY c
  have hfr : X.A.frames = some (X.env :: X.outer) := by rw [I3.ok.frames, hs]
  have JX : Inv X pins σ H s := I3.call' (ch := fp) IY.os IY.base IY.hok IY.bare fun b hb => ⟨(f3 b hb).1.2.2.2.1, (f3 b hb).1.2.1, (f3 b hb).1.2.2.2.2.1, (f3 b hb).1.2.2.2.2.2⟩
  -- the block's names: a dict that is not tracked
  obtain ⟨m, hn, _⟩ := IY.loc
  have hn : s.heap.Ns ce.locals m := hn
  have nC : H ce.locals = none := IY.free
  obtain ⟨n1, n2, n3, n4, n5, n6⟩ : FpOk X pins H ce.locals := by
    rw [cL] at nC ⊢
    exact I3.fpOk (Nat.le_refl _) nC
  have off : ce.locals ∉ frs X.stack := fun hm => by
    rw [hs] at hm
    obtain ⟨v, hv, q⟩ := List.mem_filterMap.mp hm
    rcases List.mem_cons.mp hv with rfl | hv
    · rw [hf] at q
      exact n2 (Option.some.inj q).symm
    · exact n3 (List.mem_filterMap.mpr ⟨v, hv, q⟩)
  generalize hC : ce.locals = C at hn nC n1 n2 n3 n4 n5 n6 off hR
  obtain ⟨oC, es, ep, hoC, hdC, rC⟩ := hn
  -- what the callee let out, in the def's own context
  obtain ⟨a0, B0, H0, cls0, d0, rfl, fl0, hok0, ub0, na0, os0, ag0, w0⟩ := c
  have hC' : s'.heap.get? C = some oC := fl0.1 _ _ (ub0.keep C oC hoC nC off)
  have xx : XE X (fun cls d σ1 H1 => W cls d σ1 H1 ∧ H1 C = none) (.ref a0) s' :=
    XE.of_call (E := fun cls d H1 => W cls d σ H1 ∧ H1 C = none) JX (fun _ _ _ h => h) ⟨a0, B0, H0, cls0, d0, rfl, fl0, hok0, ub0, na0, os0, ag0, w0, ub0.free C oC hoC nC⟩
  clear fl0 hok0 ub0 na0 os0 ag0 w0 JX IY
  obtain ⟨a, B, sI, pn, σ1, H1, cls, d, ea, J, low, up, sky, na, os, ag, w, nC1⟩ := xx
  rw [ea]
  clear ea
  have J0 : Inv X [] σ1 H1 sI := J.pins_of fun p hp => nomatch hp
  -- without the block's names
  obtain ⟨G, g1, g2⟩ := restrict sI.heap fun b => decide (b ≠ C)
  obtain ⟨B', b1, b2⟩ := restrict B fun b => decide (b ≠ C)
  have only : ∀ {h h' : Heap}, (∀ b, decide (b ≠ C) = true → h'.get? b = h.get? b) → (∀ b, decide (b ≠ C) = false → h'.get? b = none) → ∀ b o, h'.get? b = some o → b ≠ C ∧ h.get? b = some o := fun k1 k2 b o e => by
    by_cases z : b = C
    · rw [k2 b (by simp [z])] at e; cases e
    · rw [k1 b (by simp [z])] at e; exact ⟨z, e⟩
  have JG : Inv X [] σ1 H1 { sI with heap := G } := J0.turned (it := C) (t' := sI.toks) (fun b o hb e => by rw [g1 b (by simp [hb])]; exact e) nC1 n2 n4 n5 fun p hp => n6 p (List.mem_append_left _ (by simpa using hp))
  have none' : ∀ b, B.get? b = none → B'.get? b = none := fun b e => by
    cases q : B'.get? b with
    | none => rfl
    | some o => rw [(only b1 b2 b o q).2] at e; cases e
  show wpAny (model X.prog X.w) X.A (noteFrame (.ref a) ce) _ _ s'
  rw [noteFrame_frame cf]
  have fin : ∀ h1, HandSPX.HeldZ B (X.env :: X.outer) a (Zc cls d) X.env.locals h1 → s'.heap.UpToSlots h1 → R (.error (.ref a)) { s' with heap := h1 } := by
    rintro h1 ⟨k1, k2, k3, oe, vs, T, oT, ts, he, hz, hd, hv, hnT, hTe, hT, hdT, h3⟩ up1
    obtain ⟨sl, hC1⟩ := up1 C oC hC' fun vs z => by rw [hdC] at z; cases z
    refine hR _ _ ?_
    show ∃ m, h1.Ns ce.locals m ∧ ∀ h' m', h'.Ns ce.locals m' → Heap.SameBut ce.locals h1 h' → wpAny (model X.prog X.w) X.A (passOn "comprehension.variables-let-go" (.ref a) ce : Sem Value) (fun _ _ => False) X.xe { s' with heap := h' }
    rw [hC]
    refine ⟨m, ⟨_, es, ep, hC1, hdC, rC⟩, fun h' m' _ sb => ?_⟩
    have same : ∀ b, b ≠ C → h'.get? b = h1.get? b := fun b hb => sb.2 b hb
    have nF : ∀ {b : Addr} {o : Obj} {vs : Array Value}, h1.get? b = some o → o.data = .fields vs → b ≠ C := fun e dd z => by
      rw [z, hC1] at e
      cases e
      rw [show ({ oC with slots := sl } : Obj).data = oC.data from rfl, hdC] at dd
      cases dd
    have held : HandSPX.HeldZ B' (X.env :: X.outer) a (Zc cls d) X.env.locals h' := by
      refine ⟨fun b o e => ?_, none' a k2, frames_but none' same (by rw [← hs]; exact off) k3, oe, vs, T, oT, ts, (same a (nF he hd)).trans he, hz, hd, hv, none' T hnT, hTe, (same T (nF hT hdT)).trans hT, hdT, h3⟩
      obtain ⟨z, e⟩ := only b1 b2 b o e
      exact (same b z).trans (k1 b o e)
    have flies : wpAny (model X.prog X.w) X.A (do setFlight (.ref a) ce.frame; throw (.ref a) : Sem Value) (fun _ _ => False) X.xe { s' with heap := h' } := by
      rw [cf, hf]
      refine wpAny_bind (HandSPX.setFlight_onZ held fun h4 hh4 up4 => wpAny_throw (tk _ _ ?_))
      refine ⟨a, B', { sI with heap := G }, [], σ1, H1, cls, d, rfl, JG, fun b o e hb => ?_, fun b o e hnf => ?_, .inr (.inr (by rw [hs]; exact hh4)), na, os, ag, w⟩
      · obtain ⟨z, e⟩ := only g1 g2 b o e
        rw [b1 b (by simp [z])]
        exact low b o e hb
      · obtain ⟨z, e⟩ := only g1 g2 b o e
        obtain ⟨sl1, e1⟩ := (up.trans up1) b o e hnf
        obtain ⟨sl2, e2⟩ := up4 b _ ((same b z).trans e1) hnf
        exact ⟨sl2, e2⟩
    unfold PySem.passOn
    refine wpAny_bind (wpAny_field ((same a (nF he hd)).trans he) hd hv ?_)
    rw [if_neg (by simp)]
    first
      | exact flies
      | exact wpAny_bind (wpAny_pure flies)
  have sky : Sky B (X.env :: X.outer) a (Zc cls d) X.env.locals s'.heap := by rw [← hs]; exact sky
  rcases sky with ⟨y1, y2, y3, oe, vs, he, hz, hd, hv⟩ | fl | held
  · exact HandSPX.look_newZ Zc.steady hfr y3 hf he y1 y2 hd hv hz fin
  · exact HandSPX.looks_onZ Zc.steady hfr hf fl fin
  · exact HandSPX.againZ hf held.2.2.2 (fin s'.heap held (Heap.UpToSlots.refl _))
end
/-- [elt for target in iter if ..], the element may raise: E the wish of what is raised, at the slots ahead of the comprehension -/
def tLcX (wi : TI) (g : TG) (tt : TT) (te : XK → TE) (vs : List Nat) (E : St → XK) : TE := fun σ H Q => tLc wi g tt (te (E σ)) vs σ H Q
theorem g_lcX {wi : TI} {g : TG} {tt : TT} {te : XK → TE} {vs : List Nat} {E : St → XK} {σ : St} {H : Hp} {Q : VK} (q : tLc wi g tt (te (E σ)) vs σ H Q) : tLcX wi g tt te vs E σ H Q := q
/-- what a comprehension's parts are asked to be, whatever its block's place is -/
structure LcOk (X : Cx) (elt tg : Expr) (ifs : List Expr) (scope : Scope) (own : List (Str × Nat)) (g : TG) (tt : TT) (te : XK → TE) : Prop where
  ok : BlkOk X.N X.env.scope scope own
  tg : ∀ (s : Shared) (H : Hp) (C : Addr) (cl : List (Str × Addr)) (fp : List Addr), PG (X.blk s H scope (compEnvC scope cl C X.env) fp) tg g
  ifs : ∀ (s : Shared) (H : Hp) (C : Addr) (cl : List (Str × Addr)) (fp : List Addr), PTs (X.blk s H scope (compEnvC scope cl C X.env) fp) ifs tt
  elt : ∀ (s : Shared) (H : Hp) (C : Addr) (cl : List (Str × Addr)) (fp : List Addr) (R : Result → Shared → Prop) (E1 : XK), Out (blkX X s H scope (compEnvC scope cl C X.env) fp R) (fun _ => E1) → PE (blkX X s H scope (compEnvC scope cl C X.env) fp R) elt (te E1)
section
variable {X : Cx} {W : WX} {pins : List (Addr × Obj)} {σ : St} {H : Hp} {s : Shared} {Q : VK} {elt tg iter : Expr} {ifs : List Expr} {scope : Scope} {own : List (Str × Nat)} {pos pos' : Pos} {wi : TI} {g : TG} {tt : TT} {te : XK → TE} {use : Option (Value → Sem Unit)} {Qf : Value → Shared → Prop}
/-- the loop of the block, its list at D, its iterator at it -/
theorem lcX_loop {s3 s4 : Shared} {H3 : Hp} {ce : Env} {cl : List (Str × Addr)} {fp : List Addr} {it D : Addr} {tn : Nat → Heap → Prop} {J : It} {R : Result → Shared → Prop} {Wn : Nat → Nat → Hp → Prop} {m0 : Nat} {E1 : XK}
    (hc : X.calm = true) (L : LcOk X elt tg ifs scope own g tt te) (hce : ce = compEnvC scope cl s3.heap.objs.size X.env) (T : Turn X.prog X.w X.K tg J fp it tn) (out : Out (blkX X s3 H3 scope ce fp R) (fun _ => E1))
    (I4 : Inv (X.blk s3 H3 scope ce fp) [] (wipe σ (own.map (·.2))) H3 s4) (st4 : tn 0 s4.heap) (nfp : ∀ b ∈ fp, H3 b = none) (w0 : Wn 0 m0 H3)
    (turn : ∀ i m H, Wn i m H → (J.stop i H ∧ Q (.ref D) H) ∨ (J.go i H ∧ ∃ Nx : Hp → Prop, (∀ H', Nx H' → ∃ m', m' < m ∧ Wn (i + 1) m' H') ∧ ∀ x H', J.yld i H x H' → g x (wipe σ (own.map (·.2))) H' fun σ2 H2 => wipe σ2 (own.map (·.2)) = wipe σ (own.map (·.2)) ∧ tt σ2 H2 fun b H3 =>
      if b = true then te E1 σ2 H3 fun y H4 => ∃ acc, H4 D = some (.lst acc) ∧ acc.length < sizeLine ∧ Nx (upd H4 D (.lst (acc ++ [y]))) else Nx H3))
    (fin : ∀ (s6 : Shared) (H5 : Hp), Inv (X.blk s3 H3 scope ce fp) [] (wipe σ (own.map (·.2))) H5 s6 → Q (.ref D) H5 → R (.ok .next) s6) :
    codeAny (model X.prog X.w) X.A (.compLoop (.ListComp elt [⟨tg, iter, ifs, 0⟩] scope pos) 0 (.ref it) (.ref D) ce) R s4 := by
  have still : ∀ {σ' : St} {H' : Hp} {s' : Shared}, Inv (X.blk s3 H3 scope ce fp) [] σ' H' s' → (∀ b ∈ fp, H' b = none) → ∀ b ∈ fp, FpOk (X.blk s3 H3 scope ce fp) [] H' b := fun I' hn b hb =>
    ⟨hn b hb, (I'.ok.exf b hb).1, I'.ok.exfs b hb, .inl hb, fun x c e => (I'.ok.exf b hb).2 x c e, fun p hp => by cases hp⟩
  refine compLoop_any (fun n s' => ∃ i H', Inv (X.blk s3 H3 scope ce fp) [] (wipe σ (own.map (·.2))) H' s' ∧ tn i s'.heap ∧ (∀ b ∈ fp, H' b = none) ∧ Wn i n H') (fun n s5 h5 => ?_) m0 ⟨0, H3, I4, st4, nfp, w0⟩
  obtain ⟨i, H5, I5, st5, n5, w5⟩ := h5
  rcases turn i n H5 w5 with ⟨stop, qq⟩ | ⟨go, Nx, hNx, step⟩
  · refine thnF (T.done (X.blk s3 H3 scope ce fp) rfl rfl rfl hc i [] s5 _ H5 (fun _ _ => False) I5 (still I5 n5) st5 stop) fun r s6 h6 => ?_
    rw [h6.1]
    exact fin s6 H5 h6.2 qq
  refine thnF (T.item (X.blk s3 H3 scope ce fp) rfl rfl rfl hc i [] s5 _ H5 (fun _ _ => False) I5 (still I5 n5) st5 go) fun r s6 h6 => ?_
  obtain ⟨u, rfl, h6⟩ := h6
  refine thnF h6 fun _ s7 h7 => ?_
  obtain ⟨x, H7, I7, r7, y7, st7, n7⟩ := h7
  have objs := T.obj _ _ st7
  -- a turn that went on
  have next : ∀ {s' : Shared} {H' : Hp} {σ8 : St}, wipe σ8 (own.map (·.2)) = wipe σ (own.map (·.2)) → Inv (X.blk s3 H3 scope ce fp) ([] ++ pinsAt fp s7.heap) σ8 H' s' → Nx H' →
      ∃ m, m < n ∧ ∃ i H', Inv (X.blk s3 H3 scope ce fp) [] (wipe σ (own.map (·.2))) H' s' ∧ tn i s'.heap ∧ (∀ b ∈ fp, H' b = none) ∧ Wn i m H' := fun {s' H' σ8} hw I' nx => by
    obtain ⟨m', hm, w'⟩ := hNx H' nx
    have kept : ∀ b ∈ fp, ∀ o, s7.heap.get? b = some o → s'.heap.get? b = some o ∧ H' b = none := fun b hb o e => by
      have z := I'.pin (b, o) (List.mem_append_right _ (List.mem_append_right _ (mem_pinsAt hb e)))
      exact ⟨z.1, z.2.1⟩
    refine ⟨m', hm, i + 1, H', (I'.unpinned (pins := [])).weak (by rw [← hw, wipe_length]) (fun j v e => by rw [← hw] at e; exact (wipe_some e).1), T.keep _ _ _ st7 fun b hb o e => (kept b hb o e).1, fun b hb => ?_, w'⟩
    obtain ⟨o, e, _⟩ := objs b hb
    exact (kept b hb o e).2
  subst hce
  refine thnF ((L.tg s3 H3 _ cl fp).run _ s7 _ H7 x u _ (I7.pinned (still I7 n7) objs) r7 (step x H7 y7)) fun _ s8 h8 => ?_
  obtain ⟨σ8, H8, I8, hw, q8⟩ := h8
  refine thnF ((L.ifs s3 H3 _ cl fp).run _ s8 σ8 H8 _ I8 q8) fun b s9 h9 => ?_
  obtain ⟨H9, I9, q9⟩ := h9
  cases b with
  | false => exact next hw I9 q9
  | true =>
    refine thn ((L.elt s3 H3 _ cl fp R E1 out).run _ s9 σ8 H9 _ (I9.wish _) q9) fun z s10 h10 => ?_
    obtain ⟨yv, H10, I10, r10, acc, hD, hz, nx⟩ := h10
    exact app_ok (X := X.blk s3 H3 scope (compEnvC scope cl s3.heap.objs.size X.env) fp) (Inv.unwish (X := X.blk s3 H3 scope (compEnvC scope cl s3.heap.objs.size X.env) fp) I10) hD hz r10 fun s11 I11 => next hw I11 nx
theorem lcX_core (hc : X.calm = true) (hN : X.N.Nodup) (hs : X.stack = X.env :: X.outer) (hf : X.env.frame = some X.env.locals) (tk : Takes X W) (I : Inv X pins σ H s) (hi : PI X tg iter wi) (L : LcOk X elt tg ifs scope own g tt te)
    (hfs : ∀ x, foldedSetIterable iter X.env x = pure x) (h : tLc wi g tt (te (WE W σ)) (own.map (·.2)) σ H Q)
    (hEnd : ∀ (D C : Addr) (s' : Shared) (m : Str → Option Value) (H' : Hp) (cenv : Env), cenv.locals = C → Inv X pins σ H' s' → Q (.ref D) H' → s'.heap.Ns C m → FpOk X pins H' C → compEnds (model X.prog X.w) X.A X.xe use Qf (.ref D) cenv (.ok .next) s') :
    wpAny (model X.prog X.w) X.A (comprehension (.ListComp elt [⟨tg, iter, ifs, 0⟩] scope pos) scope X.env pos' (newList []) false (eval iter X.env) use) Qf X.xe s := by
  have cells : ∀ y ∈ scope.names, y.2 = .free → ∃ c, X.env.cells.lookup y.1 = some c := fun y hy e => (L.ok.free y hy e).elim (fun z => I.ok.has _ (.inl z)) fun z => I.ok.has _ (.inr z)
  refine comprehension_at (use := use) rfl hfs (closure_ok cells) L.ok.kind (fun y hy e => (L.ok.uniq y hy).trans (by rw [e])) (thn (hi.run pins s σ H _ I h) fun xv s1 h1 => thn h1 fun itv s2 h2 => ?_)
  obtain ⟨it, fp, tn, J, H2, rfl, I2, T, st2, f2, q⟩ := h2
  refine wpAny_newObj_type (newEnv_comp ?_) (by show 0 ≤ sizeLine; decide)
  obtain ⟨Wn, ⟨m0, w0⟩, turn⟩ := q s2.heap.objs.size (I2.hok.fresh (Nat.le_refl _))
  have I3 : Inv X pins σ (upd H2 s2.heap.objs.size (.lst [])) { s2 with heap := s2.heap.push { cls := .type "list", data := .seq ([] : List Value).toArray } } :=
    I2.laid (t' := s2.toks) (fun b o e => Heap.get?_push_of_some _ e) (Nat.le_refl _) ⟨Nat.zero_le _, [], 0, .nil, Heap.get?_push_size _ rfl⟩
  have old : ∀ b o, s2.heap.get? b = some o → ({ s2 with heap := s2.heap.push { cls := .type "list", data := .seq ([] : List Value).toArray } } : Shared).heap.get? b = some o := fun b o e => Heap.get?_push_of_some _ e
  have sz : ({ s2 with heap := s2.heap.push { cls := .type "list", data := .seq ([] : List Value).toArray } } : Shared).heap.objs.size = s2.heap.objs.size + 1 := Heap.size_push ..
  have f3 : ∀ b ∈ fp, FpOk X pins (upd H2 s2.heap.objs.size (.lst [])) b ∧ b < ({ s2 with heap := s2.heap.push { cls := .type "list", data := .seq ([] : List Value).toArray } } : Shared).heap.objs.size := fun b hb => by
    obtain ⟨o, e, _⟩ := T.obj _ _ st2 b hb
    have lt := Heap.lt_size e
    exact ⟨⟨by rw [upd_ne (Nat.ne_of_lt lt)]; exact (f2 b hb).1, (f2 b hb).2⟩, by rw [sz]; exact Nat.lt_succ_of_lt lt⟩
  have st3 := T.keep _ _ _ st2 fun b _ o e => old b o e
  generalize s2.heap.objs.size = D at I3 w0 turn f3 ⊢
  generalize upd H2 D (.lst []) = H3 at I3 w0 f3
  generalize ({ s2 with heap := s2.heap.push { cls := .type "list", data := .seq ([] : List Value).toArray } } : Shared) = s3 at I3 f3 st3 ⊢
  have I4 := block_start I3 L.ok hN f3
  have st4 : tn 0 (pushCells (s3.heap.push { cls := .type "dict", data := .dict #[] }) scope.names) := T.keep _ _ _ st3 fun b _ o e => pushCells_keeps _ _ _ _ (Heap.get?_push_of_some _ e)
  refine codeAny_compStart_list ?_ (T.self X.A 0 _ _ _ st4 ?_) <;>
  · refine lcX_loop (Wn := Wn) (m0 := m0) (E1 := WE W σ) (fp := fp) (s3 := s3) (Q := Q) hc L rfl T (blk_out hs hf tk I3 rfl rfl f3 fun e s' z => z) I4 st4 (fun b hb => (f3 b hb).1.1) w0 turn fun s6 H5 I6 qq => ?_
    have nC : H5 s3.heap.objs.size = none := I6.free
    obtain ⟨m, hn, _⟩ := I6.loc
    exact hEnd D s3.heap.objs.size s6 m H5 _ rfl (I3.call' (ch := fp) I6.os I6.base I6.hok I6.bare fun b hb => ⟨(f3 b hb).1.2.2.2.1, (f3 b hb).1.2.1, (f3 b hb).1.2.2.2.2.1, (f3 b hb).1.2.2.2.2.2⟩) qq hn (I3.fpOk (Nat.le_refl _) nC)
end
section
variable {X : Cx} {W : WX} {elt tg iter : Expr} {ifs : List Expr} {scope : Scope} {own : List (Str × Nat)} {pos : Pos} {wi : TI} {g : TG} {tt : TT} {te : XK → TE}
theorem pe_lcX (hc : X.calm = true) (hN : X.N.Nodup) (hs : X.stack = X.env :: X.outer) (hf : X.env.frame = some X.env.locals) (tk : Takes X W) (hi : PI X tg iter wi) (L : LcOk X elt tg ifs scope own g tt te) (hfs : ∀ x, foldedSetIterable iter X.env x = pure x := by intro _; rfl) :
    PE X (.ListComp elt [⟨tg, iter, ifs, 0⟩] scope pos) (tLcX wi g tt te (own.map (·.2)) (WE W)) := by
  constructor
  intro pins s σ H Q I h
  rw [eval_ListComp]
  refine lcX_core hc hN hs hf tk I hi L hfs h fun D C s' m H' cenv hC I' q hn f => ?_
  show ∃ m, s'.heap.Ns cenv.locals m ∧ ∀ h', Heap.SameBut cenv.locals s'.heap h' → EP X pins σ Q (.ref D) { s' with heap := h' }
  rw [hC]
  obtain ⟨f0, f1, _, f3, f4, f5⟩ := f
  exact ⟨m, hn, fun h' sb => ⟨.ref D, H', I'.turned (t' := s'.toks) (fun b o hb e => (sb.2 b hb).trans e) f0 f1 f3 f4 f5, rfl, q⟩⟩
theorem ps_setLcX {i : Nat} {y : Str} {py spos : Pos} (hc : X.calm = true) (hN : X.N.Nodup) (hy : X.N[i]? = some y) (hyl : X.env.scope.names.lookup y = some .local) (hsw : swapsWith (.ListComp elt [⟨tg, iter, ifs, 0⟩] scope pos) (some (.Name y py)) spos.line X.env = pure true)
    (hs : X.stack = X.env :: X.outer) (hf : X.env.frame = some X.env.locals) (tk : Takes X W) (hi : PI X tg iter wi) (L : LcOk X elt tg ifs scope own g tt te) (hfs : ∀ x, foldedSetIterable iter X.env x = pure x := by intro _; rfl) :
    PS X (.Assign [.Name y py] (.ListComp elt [⟨tg, iter, ifs, 0⟩] scope pos) spos) (tAsg (tLcX wi g tt te (own.map (·.2)) (WE W)) (gName i)) := by
  constructor
  intro pins s σ H D I h
  have h : tLc wi g tt (te (WE W σ)) (own.map (·.2)) σ H (fun x H1 => gName i x σ H1 D.nx) := h
  rw [exec_Assign_Name_used _ _ _ _ hsw]
  refine wpAny_bind (wpAny_standAt (wpAny_bind (wpAny_bind (thn (lcX_core (Qf := fun _ s' => SP X pins D .next s') hc hN hs hf tk I hi L hfs h fun l C s' m H' cenv hC I' q hn f => ?_) fun _ s' hq => wpAny_pure (wpAny_pure hq)))))
  show wpAny _ _ (assign (.Name y py) X.env (.ref l)) (fun _ s'' => ∃ m, s''.heap.Ns cenv.locals m ∧ ∀ h', Heap.SameBut cenv.locals s''.heap h' → SP X pins D .next { s'' with heap := h' }) _ _
  rw [hC]
  obtain ⟨f0, f1, _, f3, f4, f5⟩ := f
  refine wpAny_assign_Name (store_ok2 (v := V.ref l) I' hN hy (.inl hyl) rfl (fun s2 I2 ⟨a, sb, ha⟩ => ⟨m, hn.sameBut sb ?_, fun h3 sb3 => ⟨_, H', I2.turned (t' := s2.toks) (fun b o hb e => (sb3.2 b hb).trans e) f0 f1 f3 f4 f5, q⟩⟩) (.inr hyl))
  rcases ha with z | z
  · rw [z]; exact f1
  · exact fun e => f4 y a z e.symm
end
/-! Fo, make: an own class that has no __init__. -/
structure Mk0 (K : PySem.W.Frag) (C : Addr) : Prop where
  makes : PySem.W.makesIn K C = true
  init : PySem.W.findIn K (.ref C) "__init__" = some (some (.builtin "object.__init__"))
  top : PySem.W.mroIn K C (.type "object") = some true
  kp : PySem.W.keepIn K (.ref C) = true
theorem make_new0 {prog : Program} {w : World} {A : Around} {K : PySem.W.Frag} {C : Addr} {R : Result → Shared → Prop} {s : Shared} (M : Mk0 K C) (X : K.In s.heap)
    (X2 : K.In ((s.heap.push PySem.W.emptyDict).push (PySem.W.instObj C s.heap.objs.size)))
    (h : R (.ok (.ret (.ref (s.heap.objs.size + 1)))) { s with heap := (s.heap.push PySem.W.emptyDict).push (PySem.W.instObj C s.heap.objs.size) }) :
    codeAny (model prog w) A (.call (.ref C) ⟨[], []⟩) R s := by
  refine make_map0 X M.makes M.init (fun self => PySem.W.Looks.of_pure (PySem.W.oi_bind _)) ?_
  have ho : ((s.heap.push PySem.W.emptyDict).push (PySem.W.instObj C s.heap.objs.size)).get? (s.heap.objs.size + 1) = some (PySem.W.instObj C s.heap.objs.size) := by
    have z := Heap.get?_push_size (s.heap.push PySem.W.emptyDict) (o := PySem.W.instObj C s.heap.objs.size) rfl
    rwa [Heap.size_push] at z
  have t1 : PySem.W.Looks (model prog w) ((s.heap.push PySem.W.emptyDict).push (PySem.W.instObj C s.heap.objs.size)) (typeOf (.ref (s.heap.objs.size + 1))) (.ref C) := NwA.type_at ho rfl
  have t2 : PySem.W.Looks (model prog w) ((s.heap.push PySem.W.emptyDict).push (PySem.W.instObj C s.heap.objs.size)) (isInstance (.ref (s.heap.objs.size + 1)) (.type "object")) true := t1.andThen (PySem.W.looks_mroIn X2 M.top)
  obtain ⟨hh, g, d, t, os⟩ := s
  refine codeAny_call_builtin PySem.W.oi_plain PySem.W.entry_oi (@PySem.W.check_slot (model prog w) _ _ _ "object.__init__" "object" "__init__" _ [] [] _ PySem.W.oi_kind PySem.W.oi_split t2 (NwA.oi_args_any _ [] []) ?_)
  rw [PySem.W.oi_run]
  exact wpAny_pure (And.intro rfl h)
/-- C(): the new instance x, its dict dx -/
def tNew0 (C : Addr) : TE := fun _ H Q => ∀ x dx, H x = none → H dx = none → dx ≠ x → Q (.ref x) (upd (upd H dx (.own x)) x (.ins C dx []))
theorem g_new0 {C : Addr} {σ : St} {H : Hp} {Q : VK} (q : ∀ x dx, H x = none → H dx = none → dx ≠ x → Q (.ref x) (upd (upd H dx (.own x)) x (.ins C dx []))) : tNew0 C σ H Q := q
section
variable {X : Cx} {C : Addr} {x : Str} {p pos : Pos}
theorem pe_newO (M : Mk0 X.K C) (hm : X.mg x = some (.ref C)) (hg : Gl X x := by rfl) (hdb : (x == ("__debug__" : Str)) = false := by decide) : PE X (.Call (.Name x p) [] [] pos) (tNew0 C) := by
  refine ⟨fun pins s σ H Q I h => ?_⟩
  refine wpAny_Call_Name_kw (ld_glob I hg hm ?_ hdb)
  refine PySem.W.callWith_K0 I.kIn M.kp ?_
  have n1 := I.hok.fresh (Nat.le_succ s.heap.objs.size)
  have n2 := I.hok.fresh (Nat.le_refl s.heap.objs.size)
  have I2 := Inv.made (C := C) I
  exact wpAny_call (make_new0 M I.kIn I2.kIn ⟨V.ref (s.heap.objs.size + 1), _, I2, rfl, h _ _ n1 n2 (Nat.ne_of_lt (Nat.lt_succ_self _))⟩)
end
/-- a global that is a tuple -/
class HasTup (K : PySem.W.Frag) (x : Str) (vs : outParam (List V)) : Prop where h : ∀ H, SqT K H (He.ga K x) vs
/-! Fo, end: from a law's promise to its statement. -/
theorem cx_any {P : Program} {w : World} {K : PySem.W.Frag} {mg : Str → Option Value} {base : Heap} {k : Nat} {f : Addr} {fd : FuncData} {ps : List Str} {sp : Sp} (F : FnOk P w K mg base (L2.CX P w) k f fd ps sp) :
    FnOk P w K mg base (fun o H s E u s' => ∃ (P : Program) (w : World), L2.CX P w o H s E u s') k f fd ps sp :=
  ⟨F.len, fun A outer s H args us vs Q E hr he hb hv hs => codeAny_mono (F.run A outer s H args us vs Q E hr he hb hv hs) fun r s' h => match r, h with
    | .ok (.ret u), h => h
    | .ok .next, h => h
    | .ok .brk, h => h
    | .ok .cont, h => h
    | .error e, h => ⟨P, w, h⟩⟩
theorem exn_ok {K : PySem.W.Frag} {h : Heap} {mg : Str → Option Value} {x : Str} (KX : K.In h) (G : h.Ns mainGlobals mg) (c : (He.Fa.glo x).ok K = true) (d : (He.Fa.exc x).ok K = true) : Exn K mg x (He.ga K x) := by
  obtain ⟨a, b, e, f⟩ := He.exc_ok d
  exact ⟨He.glo_ok KX G c, a, b, e, f⟩
theorem ok_of {P : Program} {w : World} {K : PySem.W.Frag} {mg : Str → Option Value} {base : Heap} {x qual : Str} {st : Stmt} {f : Addr} {fd : FuncData} {N ps : List Str} {k : Nat} {sp : Sp} {T : XK → TS} {dvs : List V} (F : FunD K x qual (defArgs st) (defBody st) (defScope st) dvs [] f fd) (S : FnScope N ps (defScope st))
    (len : ∀ vs H Q E, sp vs H Q E → vs.length = ps.length)
    (body : ∀ (cdv : Value) (A : Around) (outer : List Env) (s : Shared) (H : Hp) (E : XK), Room k (A.deeper (envOfC qual (defScope st) s.heap.objs.size f cdv)) → PSs (cxD P w K mg base N qual st f cdv A outer s H E) (defBody st) (T E))
    (read : ∀ vs H Q E, sp vs H Q E → T E { nx := fun _ H' => Q .non H', rt := Q } (start N vs) H) : FnOk P w K mg base (L2.CX P w) (k + 1) f fd ps sp :=
  F.ok S len fun cdv A outer s H vs Q E hr h => ⟨T E, body cdv A outer s H E hr, read vs H Q E h⟩
/-! ### further facts of the written part -/
inductive Xf where
  | ins (C : Str) | kit (C D : Str) (b : Bool) | kitT (C : Str) (n : String) (b : Bool) | kitB (n : String) (D : Str) (b : Bool) | tup (x : Str) (vs : List He.Dv) | exc (C : Str) | mk0 (C : Str)
def Xf.ok (K : PySem.W.Frag) : Xf → Bool
  | .ins C => He.eqO (PySem.W.findIn K (.ref (He.ga K C)) "__class__") (some (some (.builtin "object.__class__"))) && (He.eqO (PySem.W.specialIn K (.builtin "object.__class__") "__get__") (some (some (.builtin "getset_descriptor.__get__"))) &&
      (decide (PySem.W.takesIn K (.builtin "object.__class__") = some true) && decide (PySem.W.mroIn K (He.ga K C) (.type "object") = some true)))
  | .kit C D b => decide (PySem.W.kitOne K (.ref (He.ga K C)) (.ref (He.ga K D)) = some b)
  | .kitT C n b => decide (PySem.W.kitOne K (.ref (He.ga K C)) (.type n) = some b)
  | .kitB n D b => decide (PySem.W.kitOne K (.type n) (.ref (He.ga K D)) = some b)
  | .tup x vs => He.tupB K x vs
  | .mk0 C => PySem.W.makesIn K (He.ga K C) && (He.eqO (PySem.W.findIn K (.ref (He.ga K C)) "__init__") (some (some (.builtin "object.__init__"))) && (decide (PySem.W.mroIn K (He.ga K C) (.type "object") = some true) && PySem.W.keepIn K (.ref (He.ga K C))))
  | .exc C => He.eqO (PySem.W.findIn K (.ref (He.ga K C)) "__getattribute__") (some (some (.builtin "BaseException.__getattribute__"))) && (He.eqO (PySem.W.findIn K (.ref (He.ga K C)) "__getattr__") (some none) &&
      (decide (PySem.W.subIn K (.ref (He.ga K C)) (.type "BaseException") = some true) && (PySem.W.hasDictIn K (He.ga K C) && (He.eqO (PySem.W.findIn K (.ref (He.ga K C)) "__class__") (some (some (.builtin "object.__class__"))) &&
      (He.eqO (PySem.W.specialIn K (.builtin "object.__class__") "__get__") (some (some (.builtin "getset_descriptor.__get__"))) && (decide (PySem.W.takesIn K (.builtin "object.__class__") = some true) && decide (PySem.W.mroIn K (He.ga K C) (.type "object") = some true)))))))
abbrev AlX : Type := Bool × He.AlD
def obsX (fa : List He.Fa) (fn : List He.DefD) (xf : List Xf) (K : PySem.W.Frag) : AlX := (xf.all fun f => f.ok K, He.obsD fa fn K)
structure SaysX (fa : List He.Fa) (fn : List He.DefD) (xf : List Xf) (K : PySem.W.Frag) : Prop where
  d : He.SaysD fa fn K
  x : (xf.all fun f => f.ok K) = true
/-! ### what the module's names reach, each once; seen is a row of bits -/
def seeX (acc : List Addr × List Addr × Nat) (b : Addr) : List Addr × List Addr × Nat :=
  if Nat.beq (Nat.land (Nat.shiftRight acc.2.2 b) 1) 0 then (b :: acc.1, b :: acc.2.1, Nat.lor acc.2.2 (Nat.shiftLeft 1 b)) else acc
def growX (g : Addr → Option Obj) (st : List Addr × List Addr × Nat) : List Addr × List Addr × Nat :=
  st.1.foldl (fun acc a => match g a with
    | some o => (He.refsD o).foldl seeX acc
    | none => acc) ([], st.2.1, st.2.2)
def stX (g : Addr → Option Obj) : Nat → List Addr × List Addr × Nat
  | 0 => ([mainGlobals], [mainGlobals], Nat.shiftLeft 1 mainGlobals)
  | n + 1 => growX g (stX g n)
def asX (g : Addr → Option Obj) (n : Nat) : List Addr := (stX g n).2.1.reverse
def obsXG (n : Nat) (fa : List He.Fa) (fn : List He.DefD) (xf : List Xf) (g : Addr → Option Obj) : AlX := obsX fa fn xf (He.frG g (asX g n))
def hookX (n : Nat) (fa : List He.Fa) (fn : List He.DefD) (xf : List Xf) : PySem.W.Hook where
  α := AlX
  obs := fun s => obsXG n fa fn xf s.heap.get?
  val := fun _ => (true, He.valD fn)
  says := fun _ h => ∃ K : PySem.W.Frag, K.In h ∧ SaysX fa fn xf K
  of := fun _ s e => ⟨He.frG s.heap.get? (asX s.heap.get? n), He.frG_in, ⟨congrArg (fun z : AlX => z.2) e, congrArg (fun z : AlX => z.1) e⟩⟩
  keeps := fun _ _ _ ⟨K, hK, c⟩ k => ⟨K, PySem.W.Frag.In.keeps hK k, c⟩
theorem obsXG_eq {n : Nat} {fa : List He.Fa} {fn : List He.DefD} {xf : List Xf} {g : Addr → Option Obj} {s : Shared} (h : ∀ a, g a = s.heap.get? a) : obsXG n fa fn xf g = (hookX n fa fn xf).obs s := by
  have e : g = s.heap.get? := funext h
  rw [e] <;> rfl
section
variable {fa : List He.Fa} {fn : List He.DefD} {xf : List Xf} {K : PySem.W.Frag}
theorem SaysX.fact (c : SaysX fa fn xf K) (i : Nat) {f : He.Fa} (h : fa[i]? = some f := by rfl) : f.ok K = true := c.d.fact i h
theorem SaysX.def_ (c : SaysX fa fn xf K) (i : Nat) {d : He.DefD} (h : fn[i]? = some d := by rfl) : ∃ fd, FunD K d.name d.qual d.params d.body d.scope (d.dvs K) (d.kws K) (He.fAd K d.at_) fd := c.d.def_ i h
theorem SaysX.ext (c : SaysX fa fn xf K) (i : Nat) {f : Xf} (h : xf[i]? = some f := by rfl) : f.ok K = true := List.all_eq_true.mp c.x f (List.mem_of_getElem? h)
end
theorem ins_ok {K : PySem.W.Frag} {C : Str} (c : (Xf.ins C).ok K = true) : HasIns K C := by
  obtain ⟨c1, c⟩ := He.ba c
  obtain ⟨c2, c⟩ := He.ba c
  obtain ⟨c3, c4⟩ := He.ba c
  exact ⟨He.eqO_ok c1, He.eqO_ok c2, of_decide_eq_true c3, of_decide_eq_true c4⟩
theorem kit_ok {K : PySem.W.Frag} {C D : Str} {b : Bool} (c : (Xf.kit C D b).ok K = true) : HasKit K C D b := ⟨of_decide_eq_true c⟩
theorem hexc_ok {K : PySem.W.Frag} {C : Str} (c : (Xf.exc C).ok K = true) : HasExc K C := by
  obtain ⟨c1, c⟩ := He.ba c
  obtain ⟨c2, c⟩ := He.ba c
  obtain ⟨c3, c⟩ := He.ba c
  obtain ⟨c4, c⟩ := He.ba c
  obtain ⟨c5, c⟩ := He.ba c
  obtain ⟨c6, c⟩ := He.ba c
  obtain ⟨c7, c8⟩ := He.ba c
  exact ⟨⟨He.eqO_ok c1, He.eqO_ok c2, of_decide_eq_true c3, c4, He.eqO_ok c5, He.eqO_ok c6, of_decide_eq_true c7, of_decide_eq_true c8⟩⟩
theorem kitT_ok {K : PySem.W.Frag} {C : Str} {t : String} {b : Bool} (c : (Xf.kitT C t b).ok K = true) : HasKitT K C t b := ⟨of_decide_eq_true c⟩
theorem hexm_ok {K : PySem.W.Frag} {C D : Str} {b : Bool} (c : (He.Fa.exm C D b).ok K = true) : HasExm K C D b := ⟨He.exm_ok c⟩
theorem mk0_ok {K : PySem.W.Frag} {C : Str} (c : (Xf.mk0 C).ok K = true) : Mk0 K (He.ga K C) := by
  obtain ⟨c1, c⟩ := He.ba c
  obtain ⟨c2, c⟩ := He.ba c
  obtain ⟨c3, c4⟩ := He.ba c
  exact ⟨c1, He.eqO_ok c2, of_decide_eq_true c3, c4⟩
theorem tup_ok {K : PySem.W.Frag} {x : Str} {vs : List He.Dv} (c : (Xf.tup x vs).ok K = true) : HasTup K x (vs.map (He.Dv.v K)) := ⟨fun H => He.tupB_ok c H⟩
end Fo
namespace Fo
open PySem PySem.Spec PyProof.Rows L2
abbrev W_ : PySem.W.OpenLaw := PySem.Challenge.rw_foretell_k02_texts_and_bytes
def top (i : Nat) : Stmt := PySem.Challenge.pw_foretell_k02_texts_and_bytes.main.body.getD i (.Pass ⟨0, 0, 0, 0⟩)
abbrev s_is_whole : Stmt := top 11
abbrev N_is_whole : List Str := ["thing"]
theorem sc_is_whole : FnScope N_is_whole ["thing"] (defScope s_is_whole) := ⟨rfl, rfl, rfl, by decide +kernel, rfl, by decide +kernel, by decide +kernel⟩
abbrev s_is_sign : Stmt := top 12
abbrev N_is_sign : List Str := ["thing"]
theorem sc_is_sign : FnScope N_is_sign ["thing"] (defScope s_is_sign) := ⟨rfl, rfl, rfl, by decide +kernel, rfl, by decide +kernel, by decide +kernel⟩
abbrev s_are_signs : Stmt := top 13
abbrev N_are_signs : List Str := ["thing", "most", "sign"]
theorem sc_are_signs : FnScope N_are_signs ["thing", "most"] (defScope s_are_signs) := ⟨rfl, rfl, rfl, by decide +kernel, rfl, by decide +kernel, by decide +kernel⟩
abbrev s_checked_text : Stmt := top 14
abbrev N_checked_text : List Str := ["thing"]
theorem sc_checked_text : FnScope N_checked_text ["thing"] (defScope s_checked_text) := ⟨rfl, rfl, rfl, by decide +kernel, rfl, by decide +kernel, by decide +kernel⟩
abbrev s_checked_bytes : Stmt := top 15
abbrev N_checked_bytes : List Str := ["thing"]
theorem sc_checked_bytes : FnScope N_checked_bytes ["thing"] (defScope s_checked_bytes) := ⟨rfl, rfl, rfl, by decide +kernel, rfl, by decide +kernel, by decide +kernel⟩
abbrev s_Lcell_at : Stmt := top 17
abbrev N_Lcell_at : List Str := ["_law_script", "_law_k"]
theorem sc_Lcell_at : FnScope N_Lcell_at ["_law_script", "_law_k"] (defScope s_Lcell_at) := ⟨rfl, rfl, rfl, by decide +kernel, rfl, by decide +kernel, by decide +kernel⟩
abbrev s_Ltold : Stmt := top 18
abbrev N_Ltold : List Str := ["_law_way", "_law_thing", "_law_found", "e", "_law_kinds", "_law_other"]
theorem sc_Ltold : FnScope N_Ltold ["_law_way", "_law_thing"] (defScope s_Ltold) := ⟨rfl, rfl, rfl, by decide +kernel, rfl, by decide +kernel, by decide +kernel⟩
abbrev s_Lsame : Stmt := top 19
abbrev N_Lsame : List Str := ["_law_found", "_law_signs", "_law_k"]
theorem sc_Lsame : FnScope N_Lsame ["_law_found", "_law_signs"] (defScope s_Lsame) := ⟨rfl, rfl, rfl, by decide +kernel, rfl, by decide +kernel, by decide +kernel⟩
abbrev s_Lright : Stmt := top 20
abbrev N_Lright : List Str := ["_law_thing", "_law_signs", "_law_way", "_law_found"]
theorem sc_Lright : FnScope N_Lright ["_law_thing", "_law_signs"] (defScope s_Lright) := ⟨rfl, rfl, rfl, by decide +kernel, rfl, by decide +kernel, by decide +kernel⟩
abbrev s_Llong : Stmt := top 21
abbrev N_Llong : List Str := ["_law_cell", "_law_signs", "_law_size"]
theorem sc_Llong : FnScope N_Llong ["_law_cell", "_law_signs"] (defScope s_Llong) := ⟨rfl, rfl, rfl, by decide +kernel, rfl, by decide +kernel, by decide +kernel⟩
abbrev s_law : Stmt := top 22
abbrev N_law : List Str := ["_law_script", "_law_cell", "_law_signs", "_law_way", "_law_at", "_law_thing", "_law_number"]
theorem sc_law : FnScope N_law ["_law_script"] (defScope s_law) := ⟨rfl, rfl, rfl, by decide +kernel, rfl, by decide +kernel, by decide +kernel⟩
def fa : List He.Fa := [.exm "NoText" "ForetellError" true, .exm "NoBytes" "ForetellError" true, .free "isinstance", .free "int", .free "bool", .free "len", .free "list", .free "range", .glo "is_whole", .free "all", .glo "is_sign", .glo "are_signs", .int "MOST_SIGNS" 1000, .glo "NoText", .exc "NoText", .int "MOST_BYTES" 12000, .glo "NoBytes", .exc "NoBytes", .free "ValueError", .glo "ForetellError", .glo "checked_text", .glo "checked_bytes", .glo "NoBit", .glo "NoChance", .glo "NoPress", .glo "TooLong", .glo "_law_told", .glo "_law_same", .free "tuple", .glo "_law_cell_at", .glo "_law_long", .glo "_law_right", .glo "law"]
def fn : List He.DefD := [⟨("is_whole", none), "is_whole", "is_whole", defArgs s_is_whole, defBody s_is_whole, defScope s_is_whole, [], []⟩,
  ⟨("is_sign", none), "is_sign", "is_sign", defArgs s_is_sign, defBody s_is_sign, defScope s_is_sign, [], []⟩,
  ⟨("are_signs", none), "are_signs", "are_signs", defArgs s_are_signs, defBody s_are_signs, defScope s_are_signs, [], []⟩,
  ⟨("checked_text", none), "checked_text", "checked_text", defArgs s_checked_text, defBody s_checked_text, defScope s_checked_text, [], []⟩,
  ⟨("checked_bytes", none), "checked_bytes", "checked_bytes", defArgs s_checked_bytes, defBody s_checked_bytes, defScope s_checked_bytes, [], []⟩,
  ⟨("_law_cell_at", none), "_law_cell_at", "_law_cell_at", defArgs s_Lcell_at, defBody s_Lcell_at, defScope s_Lcell_at, [], []⟩,
  ⟨("_law_told", none), "_law_told", "_law_told", defArgs s_Ltold, defBody s_Ltold, defScope s_Ltold, [], []⟩,
  ⟨("_law_same", none), "_law_same", "_law_same", defArgs s_Lsame, defBody s_Lsame, defScope s_Lsame, [], []⟩,
  ⟨("_law_right", none), "_law_right", "_law_right", defArgs s_Lright, defBody s_Lright, defScope s_Lright, [], []⟩,
  ⟨("_law_long", none), "_law_long", "_law_long", defArgs s_Llong, defBody s_Llong, defScope s_Llong, [], []⟩,
  ⟨("law", none), "law", "law", defArgs s_law, defBody s_law, defScope s_law, [], []⟩]
def xf : List Xf := [.exc "NoText", .kitT "NoText" "ValueError" true, .kit "NoText" "NoText" true, .kit "NoText" "NoBytes" false, .kit "NoText" "NoBit" false, .kit "NoText" "NoChance" false, .kit "NoText" "NoPress" false, .kit "NoText" "TooLong" false, .exc "NoBytes", .kitT "NoBytes" "ValueError" true, .kit "NoBytes" "NoText" false, .kit "NoBytes" "NoBytes" true, .kit "NoBytes" "NoBit" false, .kit "NoBytes" "NoChance" false, .kit "NoBytes" "NoPress" false, .kit "NoBytes" "TooLong" false]
def hk : PySem.W.Hook := hookX 6 fa fn xf
def ob (s : PySem.W.SharedT) : AlX := obsXG 6 fa fn xf (HandSHeadRun.getT s)
theorem ob_eq (s : PySem.W.SharedT) : ob s = hk.obs s.abs := obsXG_eq (HandSHeadRun.getT_eq s)
def loose : List Str := (["ForetellError", "NoText", "NoBytes", "NoChance", "NoBit", "NoPress", "TooLong", "MOST_SIGNS", "MOST_BYTES", "is_whole", "is_sign", "are_signs", "checked_text", "checked_bytes", "_law_cell_at"] : List Str) ++ (["_law_told", "_law_same", "_law_right", "_law_long"] : List Str)
theorem run (w : World) : HandSHeadRun.RunEq W_.row (PySem.W.view W_.row.prog [22]) hk ob 4680 loose w := by
  intro os
  kernel_rfl
end Fo
namespace Fo
open PySem PySem.Spec PyProof.Rows L2
local macro_rules
  | `(tactic| walk_at "rfl!") => `(tactic| exact rfl)
local macro_rules
  | `(tactic| walk_at "lk0") => `(tactic| first
    | with_reducible assumption
    | (with_reducible refine' lkF ?a ?b; (case a => with_reducible assumption); (case b => walk_at "sm")))
  | `(tactic| walk_at "ne") => `(tactic| first
    | with_reducible assumption
    | (with_reducible refine' Ne.symm ?a; (case a => with_reducible assumption))
    | (with_reducible refine' ne_of_noneF ?a ?b; (case a => with_reducible assumption); (case b => walk_at "lk0"))
    | (with_reducible refine' Ne.symm (ne_of_noneF ?a ?b); (case a => with_reducible assumption); (case b => walk_at "lk0")))
  | `(tactic| walk_at "nm") => `(tactic| first
    | with_reducible assumption
    | exact id
    | (with_reducible show ¬ (_ = _); walk_at "ne")
    | (with_reducible show ¬ (_ ∨ _); refine' not_or.mpr (And.intro ?a ?b); (case a => walk_at "nm"); (case b => walk_at "nm")))
  | `(tactic| walk_at "lk") => `(tactic| first
    | with_reducible assumption
    | with_reducible exact upd_same
    | (with_reducible refine' lkF ?a ?b; (case a => with_reducible assumption); (case b => walk_at "sm"))
    | (with_reducible refine' SameX.lk ?a ?b ?c; (case a => with_reducible assumption); (case b => walk_at "nm"); (case c => walk_at "lk"))
    | (with_reducible refine' lk_newF ?a ?b; (case a => with_reducible assumption); (case b => walk_at "lk"))
    | (with_reducible refine' lk_mut ?a ?b; (case a => walk_at "ne"); (case b => walk_at "lk")))
  | `(tactic| walk_at "sq") => `(tactic| first
    | with_reducible assumption
    | with_reducible exact sq_of upd_same
    | (with_reducible refine' sq_of ?a; (case a => with_reducible assumption))
    | (with_reducible refine' sqF ?a ?b; (case a => with_reducible assumption); (case b => walk_at "sm"))
    | (with_reducible refine' sqLF ?a ?b; (case a => with_reducible assumption); (case b => walk_at "sm"))
    | (with_reducible refine' SameX.seq ?a ?b ?c; (case a => with_reducible assumption); (case b => walk_at "nm"); (case c => walk_at "sq"))
    | (with_reducible refine' sq_newF ?a ?b; (case a => with_reducible assumption); (case b => walk_at "sq"))
    | (with_reducible refine' sq_of ?a; (case a => walk_at "lk")))
  | `(tactic| walk_at "tq") => `(tactic| first
    | with_reducible assumption
    | with_reducible exact stt_of upd_same
    | (with_reducible refine' stt_of ?a; (case a => with_reducible assumption))
    | (with_reducible refine' tqF ?a ?b; (case a => with_reducible assumption); (case b => walk_at "sm"))
    | (with_reducible refine' tqLF ?a ?b; (case a => with_reducible assumption); (case b => walk_at "sm"))
    | (with_reducible refine' SameX.tup ?a ?b ?c; (case a => with_reducible assumption); (case b => walk_at "nm"); (case c => walk_at "tq"))
    | (with_reducible refine' st_newF ?a ?b; (case a => with_reducible assumption); (case b => walk_at "tq"))
    | (with_reducible refine' stt_of ?a; (case a => walk_at "lk")))
  | `(tactic| walk_at "sm") => `(tactic| first
    | with_reducible assumption
    | with_reducible exact L2.Same.refl _
    | (with_reducible refine' same_newF ?a ?b; (case a => with_reducible assumption); (case b => walk_at "sm"))
    | (with_reducible refine' same_mutF ?a ?b; (case a => with_reducible assumption); (case b => walk_at "sm"))
    | (with_reducible refine' same_transF ?a ?b; (case a => with_reducible assumption); (case b => walk_at "sm")))
  | `(tactic| walk_at "pf") => `(tactic| first
    | exact putF_hit
    | exact putF_nil
    | exact putF_far (by decide) (by walk_at "pf"))
  | `(tactic| walk_at "ix") => `(tactic| (simp only [at0, at1, at2, at3]; exact rfl))
  | `(tactic| walk_at "sz1") => `(tactic| first
    | decide
    | (simp only [List.length_cons, List.length_nil]; decide))
  | `(tactic| walk_at "sz") => `(tactic| first
    | with_reducible assumption
    | (refine Nat.le_trans (m := 1000000) ?_ (by decide); (try simp only [List.length_append, List.length_map, List.length_cons, List.length_nil, List.length_replicate, List.length_reverse, List.length_take, List.length_drop, List.length_set]); omega))
local macro_rules
  | `(tactic| walk_at "m64") => `(tactic| first
    | exact Or.inr ⟨by decide, by decide⟩
    | exact Or.inl ⟨by decide, by decide⟩
    | exact Or.inr ⟨by omega, by omega⟩
    | exact Or.inl ⟨by omega, by omega⟩)
local macro_rules
  | `(tactic| walk_at "go1") => `(tactic| first
    | ((with_reducible refine' g_var ?h ?_); (case h => exact rfl))
    | with_reducible refine g_c ?_
    | with_reducible refine g_op ?_
    | with_reducible refine g_cons ?_
    | with_reducible refine g_nil ?_
    | with_reducible refine g_cb ?_
    | with_reducible refine g_plus ?_
    | with_reducible refine g_minus ?_
    | ((with_reducible refine' g_rest ?h ?_); (case h => decide))
    | ((with_reducible refine' g_mul ?h ?_); (case h => walk_at "m64"))
    | with_reducible refine g_lt ?_
    | with_reducible refine g_le ?_
    | with_reducible refine g_gt ?_
    | with_reducible refine g_ge ?_
    | with_reducible refine g_same ?_
    | with_reducible refine g_diff ?_
    | with_reducible refine g_sameS ?_
    | with_reducible refine g_diffS ?_
    | with_reducible refine g_test ?_
    | with_reducible refine g_ebl ?_
    | with_reducible refine g_eint ?_
    | with_reducible refine g_tru ?_
    | with_reducible refine g_truB ?_
    | with_reducible refine g_seq ?_
    | with_reducible refine g_next ?_
    | with_reducible refine g_asg ?_
    | with_reducible refine g_asgT ?_
    | with_reducible refine g_gcons ?_
    | with_reducible refine g_gname ?_
    | with_reducible refine g_gnil ?_
    | with_reducible refine g_gsub ?_
    | ((with_reducible refine' g_gtup ?h ?i ?_); (case h => walk_at "tq"); (case i => exact rfl))
    | with_reducible refine g_p15 ?_
    | with_reducible refine g_p30 ?_
    | with_reducible refine g_sh15 ?_
    | with_reducible refine g_sh16 ?_
    | with_reducible refine g_sh23 ?_
    | with_reducible refine g_sh24 ?_
    | with_reducible refine g_sh40 ?_
    | with_reducible refine g_sh48 ?_
    | with_reducible refine g_p60 ?_
    | ((with_reducible refine' g_floor ?h ?_); (case h => exact ⟨by decide, by decide⟩))
    | ((with_reducible refine' g_asgn ?h ?_); (case h => repeat (first | exact SetR.zero | apply SetR.succ)))
    | with_reducible refine g_if ?_
    | with_reducible refine g_ret ?_
    | with_reducible refine g_retN ?_
    | with_reducible refine g_drop ?_
    | with_reducible refine g_and ?_
    | with_reducible refine g_or ?_
    | with_reducible refine g_not ?_
    | with_reducible refine g_andV ?_
    | with_reducible refine g_orV ?_
    | with_reducible refine g_notV ?_
    | with_reducible refine g_ifT ?_
    | with_reducible refine g_ifF ?_
    | with_reducible refine g_ifNT ?_
    | with_reducible refine g_ifNF ?_
    | with_reducible refine g_fun ?_
    | with_reducible refine g_new ?_
    | with_reducible refine g_on1 ?_
    | with_reducible refine g_on2 ?_
    | with_reducible refine g_on3 ?_
    | with_reducible refine g_on4 ?_
    | with_reducible refine g_on31 ?_
    | with_reducible refine g_on42 ?_
    | with_reducible refine g_on41 ?_
    | with_reducible refine g_bm ?_
    | with_reducible refine g_m1 ?_
    | with_reducible refine g_k1 ?_
    | with_reducible refine g_m2 ?_
    | with_reducible refine g_k2 ?_
    | with_reducible refine g_m3 ?_
    | with_reducible refine g_k3 ?_
    | with_reducible refine g_m4 ?_
    | with_reducible refine g_k4 ?_
    | with_reducible refine g_m5 ?_
    | with_reducible refine g_k5 ?_
    | with_reducible refine g_bm0 ?_
    | with_reducible refine g_fld ?_
    | with_reducible refine g_sto ?_
    | ((with_reducible refine' g_aug ?h ?_); (case h => exact rfl))
    | with_reducible refine g_ip ?_
    | with_reducible refine g_lst ?_
    | with_reducible refine g_tup ?_
    | ((with_reducible refine' g_lstK ?h ?_); (case h => walk_at "sz"))
    | ((with_reducible refine' g_tupK ?h ?_); (case h => walk_at "sz"))
    | with_reducible refine g_un ?_
    | with_reducible refine g_forL ?_
    | with_reducible refine g_forT ?_
    | with_reducible refine g_forR1 ?_
    | with_reducible refine g_forR2 ?_
    | with_reducible refine g_forE ?_
    | with_reducible refine g_forZ ?_
    | with_reducible refine g_lcZ ?_
    | with_reducible refine g_forR3 ?_
    | with_reducible refine g_lcR3 ?_
    | with_reducible refine g_mask1 ?_
    | with_reducible refine g_bitand ?_
    | with_reducible refine g_lcX ?_
    | with_reducible refine g_lcL ?_
    | with_reducible refine g_lcT ?_
    | with_reducible refine g_lcR1 ?_
    | with_reducible refine g_lcR2 ?_
    | with_reducible refine g_new0 ?_
    | with_reducible refine g_neg ?_
    | with_reducible refine g_sl ?_
    | with_reducible refine g_part ?_
    | with_reducible refine g_nopart ?_
    | with_reducible refine g_chain ?_
    | with_reducible refine g_rz ?_
    | with_reducible refine g_isno ?_
    | with_reducible refine g_notno ?_
    | with_reducible refine g_max2 ?_
    | with_reducible refine g_min2 ?_
    | with_reducible refine g_intI ?_
    | with_reducible refine g_intB ?_
    | with_reducible refine g_bits ?_
    | with_reducible refine g_B ?_
    | with_reducible refine g_dget ?_
    | with_reducible refine g_din ?_
    | with_reducible refine g_dnotin ?_
    | with_reducible refine g_mthd ?_
    | with_reducible refine g_fldaug ?_
    | with_reducible refine g_iadd ?_
    | with_reducible refine g_isub ?_
    | with_reducible refine g_whK ?_
    | ((with_reducible refine' g_fldA ?h ?i ?c ?o ?_); (case h => walk_at "lk"); (case i => exact rfl); (case c => infer_instance); (case o => infer_instance))
    | ((with_reducible refine' g_stoU ?i ?e ?c ?o ?_); (case i => walk_at "sz1"); (case e => walk_at "pf"); (case c => infer_instance); (case o => infer_instance))
    | ((with_reducible refine' g_stoA ?h ?i ?e ?c ?o ?_); (case h => walk_at "lk"); (case i => walk_at "sz1"); (case e => walk_at "pf"); (case c => infer_instance); (case o => infer_instance))
    | ((with_reducible refine' g_augA ?h ?i ?c ?o ?_); (case h => walk_at "lk"); (case i => exact rfl); (case c => infer_instance); (case o => infer_instance))
    | ((with_reducible refine' g_putU ?i ?e ?_); (case i => walk_at "sz1"); (case e => walk_at "pf"))
    | ((with_reducible refine' g_putA ?h ?i ?e ?_); (case h => walk_at "lk"); (case i => walk_at "sz1"); (case e => walk_at "pf"))
    | ((with_reducible refine' g_one ?h ?i ?_); (case h => walk_at "lk"); (case i => exact rfl))
    | ((with_reducible refine' g_ixL ?h ?i ?_); (case h => walk_at "sq"); (case i => walk_at "ix"))
    | ((with_reducible refine' g_ixT ?h ?i ?_); (case h => walk_at "tq"); (case i => walk_at "ix"))
    | ((with_reducible refine' g_tyL ?h ?_); (case h => walk_at "sq"))
    | with_reducible refine g_tyS ?_
    | ((with_reducible refine' g_lenL ?h ?_); (case h => walk_at "sq"))
    | ((with_reducible refine' g_lenT ?h ?_); (case h => walk_at "tq"))
    | ((with_reducible refine' g_listL ?h ?_); (case h => walk_at "sq"))
    | ((with_reducible refine' g_listT ?h ?_); (case h => walk_at "tq"))
    | ((with_reducible refine' g_tupleL ?h ?_); (case h => walk_at "sq"))
    | ((with_reducible refine' g_slL ?h ?_); (case h => walk_at "sq"))
    | ((with_reducible refine' g_append ?h ?i ?_); (case h => walk_at "lk"); (case i => walk_at "sz"))
    | ((with_reducible refine' g_reverse ?h ?_); (case h => walk_at "lk"))
    | ((with_reducible refine' g_clear ?h ?_); (case h => walk_at "lk"))
    | ((with_reducible refine' g_cat ?h ?i ?j ?_); (case h => walk_at "lk"); (case i => walk_at "lk"); (case j => walk_at "sz")))
local macro_rules
  | `(tactic| walk_at "go") => `(tactic| repeat walk_at "go1")
/-! numbers: a cell of the script; what is whole, a bit, a chance, a sign -/
def cell (ns : List Int) (k : Nat) : Int := ns.getD k 0
theorem ix_ints {ns : List Int} {k : Nat} (h : k < ns.length) : atI (ns.map V.int) (k : Int) = some (.int (ns.getD k 0)) := by
  refine atI_nat ?_
  rw [List.getElem?_map, List.getElem?_eq_getElem h, List.getD_eq_getElem?_getD, List.getElem?_eq_getElem h]
  rfl
def F_Lcell_at (K : PySem.W.Frag) : V → V → Hp → VK → XK → Prop := fun x y H Q _ => ∃ (a : Addr) (ns : List Int) (k : Nat), x = .ref a ∧ y = .int k ∧ SqL K H a (ns.map V.int) ∧ Q (.int (cell ns k)) H
abbrev sp_Lcell_at (K : PySem.W.Frag) : Sp := on2 (F_Lcell_at K)
def t_Lcell_at (K : PySem.W.Frag) (E : XK) : TS :=
  tSeq (tIfS (tTest (tOp (iLt) (tVar 1) (tCB (rLength K) (tCons (tVar 0) (tNil))))) (tRet (tOp (rIx K) (tVar 0) (tVar 1))) (tNext))
  (tRet (tC (.int 0)))
theorem pure_Lcell_at (K : PySem.W.Frag) {x y : V} {H : Hp} {Q : VK} {E : XK} (h : F_Lcell_at K x y H Q E) : t_Lcell_at K E ⟨fun _ H' => Q .non H', Q, fun _ _ => False, fun _ _ => False⟩ [some x, some y] H := by
  obtain ⟨a, ns, k, rfl, rfl, hs, q⟩ := h
  unfold t_Lcell_at
  walk_at "go"
  rw [List.length_map]
  refine dif (fun h => ?_) (fun h => ?_)
  · walk_at "go"
    exact g_ixL hs (ix_ints (by omega)) q
  · walk_at "go"
    have e : cell ns k = 0 := by
      unfold cell
      rw [List.getD_eq_getElem?_getD, List.getElem?_eq_none (by omega)]
      rfl
    rw [← e]
    exact q
/-- an int, and no truth -/
def wholeV : V → Bool
  | .int _ => true
  | _ => false
def TyW (K : PySem.W.Frag) (H : Hp) (x : V) : Prop := (∃ i, x = .int i) ∨ (∃ b, x = .bl b) ∨ (wholeV x = false ∧ ∃ tn, TyX K H x (.type tn) ∧ kitB tn "int" = some false)
def F_Lwhole (K : PySem.W.Frag) : V → Hp → VK → XK → Prop := fun x H Q _ => TyW K H x ∧ Q (.bl (wholeV x)) H
abbrev sp_Lwhole (K : PySem.W.Frag) : Sp := on1 (F_Lwhole K)
abbrev F_is_whole (K : PySem.W.Frag) : V → Hp → VK → XK → Prop := F_Lwhole K
abbrev sp_is_whole (K : PySem.W.Frag) : Sp := on1 (F_is_whole K)
def t_is_whole (K : PySem.W.Frag) (E : XK) : TS :=
  tRet (tAndV (tCB (rIsi2 K) (tCons (tVar 0) (tCons (tC (.ty "int")) (tNil)))) (tNotV (tCB (rIsi2 K) (tCons (tVar 0) (tCons (tC (.ty "bool")) (tNil))))))
theorem pure_is_whole (K : PySem.W.Frag) {x : V} {H : Hp} {Q : VK} {E : XK} (h : F_is_whole K x H Q E) : t_is_whole K E ⟨fun _ H' => Q .non H', Q, fun _ _ => False, fun _ _ => False⟩ [some x] H := by
  obtain ⟨ty, q⟩ := h
  unfold t_is_whole
  walk_at "go"
  rcases ty with ⟨i, rfl⟩ | ⟨b, rfl⟩ | ⟨e, tn, ty, hk⟩
  · refine g_isi (s := "") (tn := "int") (.base (.int i)) (b := true) (by decide +kernel) ?_
    walk_at "go"
    refine g_isi (s := "") (tn := "int") (.base (.int i)) (b := false) (by decide +kernel) ?_
    walk_at "go"
    exact q
  · refine g_isi (s := "") (tn := "bool") (.base (.bl b)) (b := true) (by decide +kernel) ?_
    walk_at "go"
    refine g_isi (s := "") (tn := "bool") (.base (.bl b)) (b := true) (by decide +kernel) ?_
    walk_at "go"
    exact q
  · refine g_isi (s := "") ty hk ?_
    walk_at "go"
    rw [e] at q
    exact q
/-- from a to b -/
def btw (a b : Int) : V → Bool
  | .int i => decide (a ≤ i) && decide (i ≤ b)
  | _ => false
theorem TyW.cases {K : PySem.W.Frag} {H : Hp} {x : V} (h : TyW K H x) : (∃ i, x = .int i) ∨ (wholeV x = false ∧ ∀ a b, btw a b x = false) := by
  rcases h with h | ⟨b, rfl⟩ | ⟨e, _⟩
  · exact .inl h
  · exact .inr ⟨rfl, fun _ _ => rfl⟩
  · refine .inr ⟨e, fun a b => ?_⟩
    cases x with
    | int i => cases e
    | _ => rfl
theorem TyW.int {K : PySem.W.Frag} {H : Hp} {i : Int} : TyW K H (.int i) := .inl ⟨i, rfl⟩
theorem TyW.same {K : PySem.W.Frag} {H H1 : Hp} {x : V} (s : ∀ tn, TyX K H x (.type tn) → TyX K H1 x (.type tn)) (h : TyW K H x) : TyW K H1 x := by
  rcases h with h | h | ⟨e, tn, t, k⟩
  · exact .inl h
  · exact .inr (.inl h)
  · exact .inr (.inr ⟨e, tn, s tn t, k⟩)
theorem btw_int {a b : Int} {x : V} (h : btw a b x = true) : ∃ i, x = .int i ∧ a ≤ i ∧ i ≤ b := by
  cases x with
  | int i =>
    rw [btw, Bool.and_eq_true, decide_eq_true_iff, decide_eq_true_iff] at h
    exact ⟨i, rfl, h⟩
  | _ => cases h
theorem tyx_same {K : PySem.W.Frag} {H H1 : Hp} {x : V} {t : Value} (s : Same H H1) (h : TyX K H x t) : TyX K H1 x t := by
  cases h with
  | base h =>
    refine .base ?_
    cases h with
    | non => exact .non
    | bl x => exact .bl x
    | int i => exact .int i
    | str x => exact .str x
    | flt x => exact .flt x
    | lst e => exact .lst (s _ _ e)
    | frz e => exact .frz (s _ _ e)
    | tup e => exact .tup (s _ _ e)
    | dK e => exact .dK (s _ _ e)
    | dT e => exact .dT (s _ _ e)
    | ins e c a b d m => exact .ins (s _ _ e) c a b d m
  | byt b => exact .byt b
  | set e => exact .set (s _ _ e)
  | kList e c => exact .kList e c
  | kTuple e c => exact .kTuple e c
  | kDict e c => exact .kDict e c
  | fTuple e => exact .fTuple (s _ _ e)
  | fDict e => exact .fDict (s _ _ e)
theorem tyw_same {K : PySem.W.Frag} {H H1 : Hp} {x : V} (s : Same H H1) (h : TyW K H x) : TyW K H1 x := h.same fun _ => tyx_same s
theorem ifB {A B : Prop} {b : Bool} (h1 : b = true → A) (h2 : b = false → B) : if b = true then A else B := difB h1 h2
def F_btw (K : PySem.W.Frag) (a b : Int) : V → Hp → VK → XK → Prop := fun x H Q _ => TyW K H x ∧ Q (.bl (btw a b x)) H
abbrev sp_is_bit (K : PySem.W.Frag) : Sp := on1 (F_btw K 0 1)
abbrev sp_is_chance (K : PySem.W.Frag) : Sp := on1 (F_btw K 32768 16744448)
abbrev sp_is_sign (K : PySem.W.Frag) : Sp := on1 (F_btw K 0 255)
def t_is_sign (K : PySem.W.Frag) (E : XK) : TS :=
  tRet (tAndV (tFun (sp_is_whole K) [] (fun _ => E) (tCons (tVar 0) (tNil))) (tChain (rLe) (rLe) (tC (.int 0)) (tVar 0) (tC (.int 255))))
theorem pure_is_sign (K : PySem.W.Frag) {x : V} {H : Hp} {Q : VK} {E : XK} (h : F_btw K 0 255 x H Q E) : t_is_sign K E ⟨fun _ H' => Q .non H', Q, fun _ _ => False, fun _ _ => False⟩ [some x] H := by
  obtain ⟨ty, q⟩ := h
  unfold t_is_sign
  walk_at "go"
  refine ⟨ty, ?_⟩
  rcases ty.cases with ⟨i, rfl⟩ | ⟨e1, e2⟩
  · walk_at "go"
    refine g_ifT ?_
    walk_at "go"
    refine dif (fun h => ?_) fun h => ?_
    · walk_at "go"
      rwa [btw, decide_eq_true h, Bool.true_and] at q
    · rwa [btw, decide_eq_false h, Bool.false_and] at q
  · rw [e1]
    rw [e2] at q
    walk_at "go"
    exact q
/-- what a check hands on, what it refuses -/
def F_chk (K : PySem.W.Frag) (a b : Int) (C : Str) : V → Hp → VK → XK → Prop := fun x H Q E => TyW K H x ∧ (btw a b x = true → Q x H) ∧ (btw a b x = false → E (.ref (He.ga K C)) none H)
abbrev sp_checked_bit (K : PySem.W.Frag) : Sp := on1 (F_chk K 0 1 "NoBit")
abbrev sp_checked_chance (K : PySem.W.Frag) : Sp := on1 (F_chk K 32768 16744448 "NoChance")
theorem chk_int {K : PySem.W.Frag} {a b i : Int} {C : Str} {H : Hp} {Q : VK} {E : XK} (h : a ≤ i ∧ i ≤ b) (q : Q (.int i) H) : F_chk K a b C (.int i) H Q E :=
  ⟨.int, fun _ => q, fun e => by rw [btw, decide_eq_true h.1, decide_eq_true h.2] at e; cases e⟩
def gave (c b : Int) : Int := if b = 1 then c else 16777216 - c
def F_gives (K : PySem.W.Frag) : V → V → Hp → VK → XK → Prop := fun x y H Q E => TyW K H x ∧ TyW K H y ∧ (btw 32768 16744448 x = false → E (.ref (He.ga K "NoChance")) none H) ∧ (btw 32768 16744448 x = true → btw 0 1 y = false → E (.ref (He.ga K "NoBit")) none H) ∧
  (∀ c b : Int, x = .int c → y = .int b → 32768 ≤ c → c ≤ 16744448 → 0 ≤ b → b ≤ 1 → Q (.int (gave c b)) H)
abbrev sp_gives (K : PySem.W.Frag) : Sp := on2 (F_gives K)
theorem gives_of {K : PySem.W.Frag} {H : Hp} {Q : VK} {E : XK} {c b : Int} (hc : 32768 ≤ c ∧ c ≤ 16744448) (hb : 0 ≤ b ∧ b ≤ 1) (q : Q (.int (gave c b)) H) : F_gives K (.int c) (.int b) H Q E := by
  have bt : ∀ {u v i : Int}, u ≤ i ∧ i ≤ v → btw u v (.int i) = true := fun h => by rw [btw, decide_eq_true h.1, decide_eq_true h.2]; rfl
  refine ⟨.int, .int, fun k => ?_, fun _ k => ?_, fun c' b' e1 e2 _ _ _ _ => ?_⟩
  · rw [bt hc] at k; cases k
  · rw [bt hb] at k; cases k
  · cases e1
    cases e2
    exact q
/-! a step: a chance, a bit, of a cell -/
def stepC (n : Int) : Int :=
  let m := n % 1000000000000000
  if m / 2 % 7 < 3 then (if m / 2 % 7 = 0 then 32768 else if m / 2 % 7 = 1 then 16744448 else 8388608) else 32768 + ((m * m + 5 * m + 11) * 48271 % 2147483647) % 16711681
def stepB (n : Int) : Int := n % 1000000000000000 % 2
theorem stepC_ok (n : Int) : 32768 ≤ stepC n ∧ stepC n ≤ 16744448 := by
  unfold stepC
  simp only []
  split
  · split
    · decide
    · split <;> decide
  · omega
theorem stepB_ok (n : Int) : 0 ≤ stepB n ∧ stepB n ≤ 1 := by unfold stepB; omega
def F_Lstep (K : PySem.W.Frag) : V → Hp → VK → XK → Prop := fun x H Q _ => ∃ n : Int, x = .int n ∧ ∀ p H', H p = none → Same H H' → H' p = some (.tup [.int (stepC n), .int (stepB n)]) → Q (.ref p) H'
abbrev sp_Lstep (K : PySem.W.Frag) : Sp := on1 (F_Lstep K)/-! texts, decisions, nodes -/
/-- whether x is a list of at most m signs -/
inductive SgT (K : PySem.W.Frag) (H : Hp) (m : Nat) : V → Bool → Prop
  | lst {a : Addr} {xs : List V} (e : H a = some (.lst xs)) (l : xs.length ≤ 1000000) (t : ∀ v ∈ xs, TyW K H v) : SgT K H m (.ref a) (decide (xs.length ≤ m) && xs.all (btw 0 255))
  | other {x : V} {tn : String} (t : TyX K H x (.type tn)) (k : kitB tn "list" = some false) : SgT K H m x false
structure TextOk (m : Nat) (ns : List Int) : Prop where
  len : ns.length ≤ m
  all : ∀ z ∈ ns, 0 ≤ z ∧ z ≤ 255
theorem all_ints : ∀ {xs : List V}, xs.all (btw 0 255) = true → ∃ ns : List Int, xs = ns.map V.int ∧ ∀ z ∈ ns, 0 ≤ z ∧ z ≤ 255
  | [], _ => ⟨[], rfl, fun z h => nomatch h⟩
  | x :: xs, h => by
    rw [List.all_cons, Bool.and_eq_true] at h
    obtain ⟨ns, rfl, hn⟩ := all_ints h.2
    obtain ⟨i, rfl, hi⟩ := btw_int h.1
    refine ⟨i :: ns, rfl, fun z hz => ?_⟩
    rcases List.mem_cons.mp hz with rfl | hz
    · exact hi
    · exact hn z hz
theorem SgT.yes {K : PySem.W.Frag} {H : Hp} {m : Nat} {x : V} (h : SgT K H m x true) : ∃ a ns, x = .ref a ∧ H a = some (.lst (ns.map V.int)) ∧ TextOk m ns := by
  generalize hb : true = b at h
  cases h with
  | @lst a xs e l t =>
    have hb := hb.symm
    rw [Bool.and_eq_true, decide_eq_true_iff] at hb
    obtain ⟨ns, rfl, hn⟩ := all_ints hb.2
    exact ⟨a, ns, rfl, e, ⟨by simpa using hb.1, hn⟩⟩
  | other t k => cases hb
theorem SgT.of {K : PySem.W.Frag} {H : Hp} {m : Nat} {a : Addr} {ns : List Int} (e : H a = some (.lst (ns.map V.int))) (t : TextOk m ns) (hm : m ≤ 1000000) : SgT K H m (.ref a) true := by
  have k := SgT.lst (K := K) (m := m) e (by rw [List.length_map]; exact Nat.le_trans t.len hm) (fun v hv => by
    obtain ⟨z, _, rfl⟩ := List.mem_map.mp hv
    exact .int)
  have c : (ns.map V.int).all (btw 0 255) = true := by
    rw [List.all_map]
    refine List.all_eq_true.mpr fun z hz => ?_
    show btw 0 255 (.int z) = true
    rw [btw, decide_eq_true (t.all z hz).1, decide_eq_true (t.all z hz).2]
    rfl
  rw [c, decide_eq_true (by rw [List.length_map]; exact t.len)] at k
  exact k
def F_are_signs (K : PySem.W.Frag) : V → V → Hp → VK → XK → Prop := fun x y H Q _ => ∃ (m : Nat) (b : Bool), y = .int m ∧ SgT K H m x b ∧ ∀ H', Same H H' → Q (.bl b) H'
abbrev sp_are_signs (K : PySem.W.Frag) : Sp := on2 (F_are_signs K)
def t_are_signs (K : PySem.W.Frag) (E : XK) : TS :=
  tSeq (tIfS (tOr (tNot (tTru K (tCB (rIsi2 K) (tCons (tVar 0) (tCons (tC (.ty "list")) (tNil)))))) (tTest (tOp (iGt) (tCB (rLength K) (tCons (tVar 0) (tNil))) (tVar 1)))) (tRet (tC (.bl false))) (tNext))
  (tRet (tCB (rAll K) (tCons (tLc (iList K (tVar 0)) (gName 2) (tYes) (tFun (sp_is_sign K) [] (fun _ => E0) (tCons (tVar 2) (tNil))) [2]) (tNil))))
theorem pure_are_signs (K : PySem.W.Frag) {x y : V} {H : Hp} {Q : VK} {E : XK} (h : F_are_signs K x y H Q E) : t_are_signs K E ⟨fun _ H' => Q .non H', Q, fun _ _ => False, fun _ _ => False⟩ [some x, some y, none] H := by
  obtain ⟨m, b, rfl, S, q⟩ := h
  unfold t_are_signs
  walk_at "go"
  cases S with
  | @lst a xs e l t =>
    refine g_isi (s := "") (tn := "list") (.base (.lst e)) (b := true) (by decide +kernel) ?_
    walk_at "go"
    refine dif (fun h => ?_) fun h => ?_
    · rw [decide_eq_false (by omega), Bool.false_and] at q
      walk_at "go"
      exact q _ (Same.refl _)
    · rw [decide_eq_true (by omega), Bool.true_and] at q
      walk_at "go"
      refine lc_L (sq_of e) (fun v => .bl (btw 0 255 v)) l (fun v hv D H2 Q2 s2 k => ?_) fun D H2 nD s2 eD => ?_
      · walk_at "go"
        exact ⟨tyw_same s2 (t v hv), k _ (Same.refl _)⟩
      · walk_at "go"
        refine g_all (bs := xs.map (btw 0 255)) (sq_of (by rw [eD, List.map_map]; rfl)) ?_
        have : (xs.map (btw 0 255)).all id = xs.all (btw 0 255) := by rw [List.all_map]; rfl
        rw [this]
        exact q _ s2
  | other t k =>
    refine g_isi (s := "") t k ?_
    walk_at "go"
    exact q _ (Same.refl _)
/-- a checked list of signs: handed on as a new one, or refused by the class C -/
def F_signs (K : PySem.W.Frag) (m : Nat) (C : Str) : V → Hp → VK → XK → Prop := fun x H Q E => ∃ b : Bool, SgT K H m x b ∧ (b = false → ∀ H', Same H H' → E (.ref (He.ga K C)) none H') ∧
  (b = true → ∀ a ns, x = .ref a → H a = some (.lst (ns.map V.int)) → TextOk m ns → ∀ l H', H l = none → Same H H' → H' l = some (.lst (ns.map V.int)) → Q (.ref l) H')
abbrev sp_checked_text (K : PySem.W.Frag) : Sp := on1 (F_signs K 1000 "NoText")
abbrev sp_checked_bytes (K : PySem.W.Frag) : Sp := on1 (F_signs K 12000 "NoBytes")
def t_checked_text (K : PySem.W.Frag) (E : XK) : TS :=
  tSeq (tIfS (tNot (tTru K (tFun (sp_are_signs K) [] (fun _ => E) (tCons (tVar 0) (tCons (tC (.int 1000)) (tNil)))))) (tRz (fun cls d _ H => E cls d H) (He.ga K "NoText")) (tNext))
  (tRet (tCB (rListOf K) (tCons (tVar 0) (tNil))))
theorem pure_checked_text (K : PySem.W.Frag) {x : V} {H : Hp} {Q : VK} {E : XK} (h : F_signs K 1000 "NoText" x H Q E) : t_checked_text K E ⟨fun _ H' => Q .non H', Q, fun _ _ => False, fun _ _ => False⟩ [some x] H := by
  obtain ⟨b, S, r, q⟩ := h
  unfold t_checked_text
  walk_at "go"
  refine ⟨1000, b, rfl, S, fun H1 s1 => ?_⟩
  walk_at "go"
  refine difNB (fun h => ?_) fun h => ?_
  · walk_at "go"
    exact r h _ s1
  · subst h
    obtain ⟨a, ns, rfl, e, t⟩ := S.yes
    have e1 := s1 _ _ e
    walk_at "go"
    intro l nl
    exact q rfl a ns rfl e t l _ (s1.free nl) (same_new s1 nl) upd_same
def t_checked_bytes (K : PySem.W.Frag) (E : XK) : TS :=
  tSeq (tIfS (tNot (tTru K (tFun (sp_are_signs K) [] (fun _ => E) (tCons (tVar 0) (tCons (tC (.int 12000)) (tNil)))))) (tRz (fun cls d _ H => E cls d H) (He.ga K "NoBytes")) (tNext))
  (tRet (tCB (rListOf K) (tCons (tVar 0) (tNil))))
theorem pure_checked_bytes (K : PySem.W.Frag) {x : V} {H : Hp} {Q : VK} {E : XK} (h : F_signs K 12000 "NoBytes" x H Q E) : t_checked_bytes K E ⟨fun _ H' => Q .non H', Q, fun _ _ => False, fun _ _ => False⟩ [some x] H := by
  obtain ⟨b, S, r, q⟩ := h
  unfold t_checked_bytes
  walk_at "go"
  refine ⟨12000, b, rfl, S, fun H1 s1 => ?_⟩
  walk_at "go"
  refine difNB (fun h => ?_) fun h => ?_
  · walk_at "go"
    exact r h _ s1
  · subst h
    obtain ⟨a, ns, rfl, e, t⟩ := S.yes
    have e1 := s1 _ _ e
    walk_at "go"
    intro l nl
    exact q rfl a ns rfl e t l _ (s1.free nl) (same_new s1 nl) upd_same
theorem signs_of' {K : PySem.W.Frag} {m : Nat} {C : Str} {H : Hp} {Q : VK} {E : XK} {a : Addr} {ns : List Int} (e : H a = some (.lst (ns.map V.int))) (t : TextOk m ns) (hm : m ≤ 1000000) (q : ∀ l H', H l = none → Same H H' → H' l = some (.lst (ns.map V.int)) → Q (.ref l) H') : F_signs K m C (.ref a) H Q E := by
  refine ⟨true, SgT.of e t hm, (fun h => nomatch h), fun _ a' ns' ea e' _ => ?_⟩
  cases ea
  have := HO.lst.inj (Option.some.inj (e.symm.trans e'))
  rw [← this]
  exact q
/-! a mixer's shares -/
def dotS (ws cs : List Int) : Int := (List.zipWith (fun w c => w * c) ws cs).sum
def mixedS (ws cs : List Int) : Int := dotS ws cs / ws.sum
def partsS (ws cs : List Int) (b : Int) : List Int := List.zipWith (fun w c => w * gave c b) ws cs
def grownS (ps : List Int) : List Int := ps.map fun p => 31 * (ps.length : Int) * p + ps.sum
def overS (s : Int) : Int := if ((Builtin.Int.intBits s : Nat) : Int) - 48 > 0 then ((Builtin.Int.intBits s : Nat) : Int) - 48 else 0
def cutS (gs : List Int) : List Int := gs.map fun g => g / 2 ^ (overS gs.sum).toNat
def learnS (ws cs : List Int) (b : Int) : List Int := cutS (grownS (partsS ws cs b))
structure MOk (m : Nat) (ws : List Int) : Prop where
  len : ws.length = m
  m1 : 1 ≤ m
  m6 : m ≤ 6
  pos : ∀ w ∈ ws, 1 ≤ w
  sum : ws.sum < 281474976710656
structure COk (m : Nat) (cs : List Int) : Prop where
  len : cs.length = m
  all : ∀ c ∈ cs, 32768 ≤ c ∧ c ≤ 16744448
theorem sum_ge : ∀ {l : List Int}, (∀ x ∈ l, 1 ≤ x) → (l.length : Int) ≤ l.sum ∧ ∀ x ∈ l, x ≤ l.sum
  | [], _ => ⟨by simp, fun x h => nomatch h⟩
  | y :: l, h => by
    obtain ⟨a, b⟩ := sum_ge (l := l) fun x hx => h x (List.mem_cons_of_mem _ hx)
    have y1 := h y List.mem_cons_self
    refine ⟨by simp only [List.length_cons, List.sum_cons]; omega, fun x hx => ?_⟩
    rw [List.sum_cons]
    rcases List.mem_cons.mp hx with rfl | hx
    · omega
    · have := b x hx; omega
theorem sum_aff (a b : Int) : ∀ l : List Int, (l.map fun p => a * p + b).sum = a * l.sum + (l.length : Int) * b
  | [] => by simp
  | p :: l => by
    rw [List.map_cons, List.sum_cons, sum_aff a b l, List.sum_cons, List.length_cons, Int.mul_add]
    have : ((l.length + 1 : Nat) : Int) * b = (l.length : Int) * b + b := by rw [Int.natCast_add, Int.add_mul]; simp
    rw [this]
    omega
theorem sum_div (d : Int) (hd : 0 < d) : ∀ l : List Int, (l.map fun g => g / d).sum * d ≤ l.sum
  | [] => by simp
  | g :: l => by
    rw [List.map_cons, List.sum_cons, List.sum_cons, Int.add_mul]
    have := sum_div d hd l
    have := Int.ediv_mul_le g (Int.ne_of_gt hd)
    omega
theorem gave_ok {c b : Int} (h : 32768 ≤ c ∧ c ≤ 16744448) : 32768 ≤ gave c b ∧ gave c b ≤ 16744448 := by
  unfold gave
  split <;> omega
theorem zip_all {P Q R : Int → Prop} {f : Int → Int → Int} (hf : ∀ w c, P w → Q c → R (f w c)) : ∀ {ws cs : List Int}, (∀ w ∈ ws, P w) → (∀ c ∈ cs, Q c) → ∀ x ∈ List.zipWith f ws cs, R x
  | [], _, _, _, x, h => by simp at h
  | _ :: _, [], _, _, x, h => by simp at h
  | w :: ws, c :: cs, hw, hc, x, h => by
    rw [List.zipWith_cons_cons] at h
    rcases List.mem_cons.mp h with rfl | h
    · exact hf _ _ (hw _ List.mem_cons_self) (hc _ List.mem_cons_self)
    · exact zip_all hf (fun w h => hw w (List.mem_cons_of_mem _ h)) (fun c h => hc c (List.mem_cons_of_mem _ h)) x h
theorem parts_ok {m : Nat} {ws cs : List Int} (b : Int) (w : MOk m ws) (c : COk m cs) : (partsS ws cs b).length = m ∧ ∀ p ∈ partsS ws cs b, 1 ≤ p := by
  refine ⟨by unfold partsS; rw [List.length_zipWith, w.len, c.len]; omega, ?_⟩
  refine zip_all (P := fun w => 1 ≤ w) (Q := fun c => 32768 ≤ c ∧ c ≤ 16744448) (R := fun p => 1 ≤ p) (fun w c hw hc => ?_) w.pos c.all
  have := (gave_ok (b := b) hc).1
  have := Int.mul_le_mul hw this (by omega) (by omega)
  omega
theorem bits_pos {s : Int} (h : 0 < s) : 2 ^ (Builtin.Int.intBits s - 1) ≤ s ∧ s < 2 ^ Builtin.Int.intBits s ∧ 1 ≤ Builtin.Int.intBits s := by
  have e : Builtin.Int.intBits s = s.natAbs.log2 + 1 := by
    unfold Builtin.Int.intBits
    rw [if_neg (by simp; omega)]
  rw [e, Nat.add_sub_cancel]
  have hn : s.natAbs ≠ 0 := by omega
  have a := Nat.log2_self_le hn
  have b := (Nat.log2_lt (n := s.natAbs) (k := s.natAbs.log2 + 1) hn).mp (Nat.lt_succ_self _)
  have c : ∀ k : Nat, (2 : Int) ^ k = ((2 ^ k : Nat) : Int) := fun k => by simp
  rw [c, c]
  refine ⟨by omega, by omega, by omega⟩
/-- halved as often as is needed, no oftener -/
theorem over_ok {s : Int} (h : 0 < s) : s < 281474976710656 * 2 ^ (overS s).toNat ∧ (overS s ≠ 0 → 140737488355328 * 2 ^ (overS s).toNat ≤ s) ∧ 0 ≤ overS s := by
  obtain ⟨a, b, c⟩ := bits_pos h
  unfold overS
  generalize Builtin.Int.intBits s = k at a b c
  by_cases z : (k : Int) - 48 > 0
  · rw [if_pos z]
    have e : ((k : Int) - 48).toNat = k - 48 := by omega
    rw [e]
    have p1 : (2 : Int) ^ k = 281474976710656 * 2 ^ (k - 48) := by
      rw [show (281474976710656 : Int) = 2 ^ 48 from rfl, ← Int.pow_add]
      congr 1; omega
    have p2 : (2 : Int) ^ (k - 1) = 140737488355328 * 2 ^ (k - 48) := by
      rw [show (140737488355328 : Int) = 2 ^ 47 from rfl, ← Int.pow_add]
      congr 1; omega
    rw [← p1, ← p2]
    exact ⟨b, fun _ => a, by omega⟩
  · rw [if_neg z]
    refine ⟨?_, fun z => absurd rfl z, Int.le_refl _⟩
    have p : (2 : Int) ^ k ≤ 2 ^ 48 := by
      have c : ∀ k : Nat, (2 : Int) ^ k = ((2 ^ k : Nat) : Int) := fun k => by simp
      rw [c, c]
      exact Int.ofNat_le.mpr (Nat.pow_le_pow_right (by decide) (by omega))
    have : (2 : Int) ^ 48 = 281474976710656 := by decide
    simp
    omega
theorem grown_sum (ps : List Int) : (grownS ps).sum = 32 * (ps.length : Int) * ps.sum := by
  unfold grownS
  rw [sum_aff]
  rw [Int.mul_assoc, Int.mul_assoc]
  omega
theorem learn_ok {m : Nat} {ws cs : List Int} {b : Int} (w : MOk m ws) (c : COk m cs) : MOk m (learnS ws cs b) := by
  obtain ⟨pl, pp⟩ := parts_ok b w c
  unfold learnS
  generalize partsS ws cs b = ps at pl pp
  obtain ⟨s1, s2⟩ := sum_ge pp
  have m1 := w.m1
  have m6 := w.m6
  have gs := grown_sum ps
  have W : 1 ≤ ps.sum := by omega
  have S : 0 < (grownS ps).sum := by
    rw [gs, pl]
    exact Int.mul_pos (by omega) (by omega)
  obtain ⟨o1, o2, o3⟩ := over_ok S
  have hd : (0 : Int) < 2 ^ (overS (grownS ps).sum).toNat := Int.pow_pos (by decide)
  refine ⟨?_, m1, m6, fun x hx => ?_, ?_⟩
  · unfold cutS grownS
    rw [List.length_map, List.length_map, pl]
  · unfold cutS at hx
    obtain ⟨g, hg, rfl⟩ := List.mem_map.mp hx
    refine Int.le_ediv_of_mul_le hd ?_
    rw [Int.one_mul]
    have hW : ps.sum ≤ g := by
      unfold grownS at hg
      obtain ⟨p, hp, rfl⟩ := List.mem_map.mp hg
      have := pp p hp
      have : 0 ≤ 31 * (ps.length : Int) * p := Int.mul_nonneg (by omega) (by omega)
      omega
    by_cases z : overS (grownS ps).sum = 0
    · rw [z]
      have : (2 : Int) ^ (0 : Int).toNat = 1 := rfl
      omega
    · have o2 := o2 z
      have k : (grownS ps).sum ≤ 192 * ps.sum := by
        rw [gs]
        exact Int.mul_le_mul_of_nonneg_right (by omega) (by omega)
      generalize (2 : Int) ^ (overS (grownS ps).sum).toNat = d at o2 hd
      omega
  · unfold cutS
    have := sum_div _ hd (grownS ps)
    generalize (2 : Int) ^ (overS (grownS ps).sum).toNat = d at this o1 hd
    have : ((grownS ps).map fun g => g / d).sum * d < 281474976710656 * d := by omega
    exact Int.lt_of_mul_lt_mul_right this (by omega)
def MixAt (K : PySem.W.Frag) (H : Hp) (a dx : Addr) (ws : List Int) : Prop := ∃ p, H a = some (.ins (He.ga K "Mixer") dx [("shares", .ref p)]) ∧ H p = some (.lst (ws.map V.int))
theorem MixAt.same {K : PySem.W.Frag} {H H1 : Hp} {a dx : Addr} {ws : List Int} (h : MixAt K H a dx ws) (s : Same H H1) : MixAt K H1 a dx ws := by
  obtain ⟨p, h1, h2⟩ := h
  exact ⟨p, s _ _ h1, s _ _ h2⟩
theorem MixAt.keep {K : PySem.W.Frag} {M : Addr → Prop} {H H1 : Hp} {a dx : Addr} {ws : List Int} (h : MixAt K H a dx ws) (s : SameX M H H1) (na : ¬ M a) (nl : ∀ p xs, H p = some (.lst xs) → ¬ M p) : MixAt K H1 a dx ws := by
  obtain ⟨p, h1, h2⟩ := h
  exact ⟨p, s.kp _ _ na h1, s.kp _ _ (nl _ _ h2) h2⟩
theorem cdw48 {i j : Int} (h : 0 < j) (h2 : j < 281474976710656) : CDivW i j := ⟨h, by
  have : j.natAbs.log2 < 48 := (Nat.log2_lt (by omega)).mpr (by omega)
  omega⟩
theorem dot_take {ws cs : List Int} {i : Nat} {w c : Int} (f : Int → Int → Int) (hw : ws[i]? = some w) (hc : cs[i]? = some c) : List.zipWith f (ws.take (i + 1)) (cs.take (i + 1)) = List.zipWith f (ws.take i) (cs.take i) ++ [f w c] := by
  have h1 := (List.getElem?_eq_some_iff.mp hw).1
  have h2 := (List.getElem?_eq_some_iff.mp hc).1
  rw [List.take_add_one, List.take_add_one, hw, hc, List.zipWith_append (by simp only [List.length_take]; omega)]
  rfl
theorem zip_ints (g : Int → Int → Int) : ∀ ws cs : List Int, List.zipWith (fun w c => V.int (g w c)) ws cs = (List.zipWith g ws cs).map V.int
  | [], _ => by simp
  | _ :: _, [] => by simp
  | w :: ws, c :: cs => by rw [List.zipWith_cons_cons, List.zipWith_cons_cons, List.map_cons, zip_ints g ws cs]
/-! k02: texts and bytes -/
theorem g_disp1 {σ : St} {H : Hp} {Q : VK} {i j : Int} (q : ∀ p, H p = none → Q (.ref p) (upd H p (.dK [(.inl i, .int j)]))) : tDisp [(tC (.int i), tC (.int j))] σ H Q := by
  intro p hp
  refine ⟨upd_same, [(.inl i, .int j)], rfl, by simp, ?_⟩
  rw [upd_upd]
  exact q p hp
theorem g_diffR {K : PySem.W.Frag} {H : Hp} {Q : VK} {x y : V} {d : PyData} (hx : Dp K H x d) (hy : Dp K H y d) (l : d.canLay0 = true) (n : d.depth ≤ 64) (q : Q (.bl false) H) : rDiff K x y H Q := by
  have sh : SeqAt.shaped d = true := by
    unfold SeqAt.shaped
    rw [l, Bool.true_and]
    exact decide_eq_true n
  refine .inr ⟨d, d, hx, hy, sh, sh, ?_⟩
  rw [SeqAt.eqv_refl d l]
  exact q
theorem g_sameR {K : PySem.W.Frag} {H : Hp} {Q : VK} {x y : V} {d : PyData} (hx : Dp K H x d) (hy : Dp K H y d) (l : d.canLay0 = true) (n : d.depth ≤ 64) (q : Q (.bl true) H) : rSame K x y H Q := by
  have sh : SeqAt.shaped d = true := by
    unfold SeqAt.shaped
    rw [l, Bool.true_and]
    exact decide_eq_true n
  refine .inr ⟨d, d, hx, hy, sh, sh, ?_⟩
  rw [SeqAt.eqv_refl d l]
  exact q
theorem ty_non {K : PySem.W.Frag} {H : Hp} : TyW K H .non := .inr (.inr ⟨rfl, "NoneType", .base .non, by decide +kernel⟩)
theorem ty_str {K : PySem.W.Frag} {H : Hp} {z : Str} : TyW K H (.str z) := .inr (.inr ⟨rfl, "str", .base (.str _), by decide +kernel⟩)
theorem ty_bl {K : PySem.W.Frag} {H : Hp} {b : Bool} : TyW K H (.bl b) := .inr (.inl ⟨b, rfl⟩)
theorem ty_lst {K : PySem.W.Frag} {H : Hp} {a : Addr} {xs : List V} (h : H a = some (.lst xs)) : TyW K H (.ref a) := .inr (.inr ⟨rfl, "list", .base (.lst h), by decide +kernel⟩)
theorem SgT.same {K : PySem.W.Frag} {m : Nat} {H H1 : Hp} {x : V} {b : Bool} (h : SgT K H m x b) (s : Same H H1) : SgT K H1 m x b := by
  cases h with
  | lst e l t => exact .lst (s _ _ e) l fun v hv => tyw_same s (t v hv)
  | other t k => exact .other (tyx_same s t) k
theorem SgT.no {K : PySem.W.Frag} {m : Nat} {H : Hp} {a : Addr} {xs : List V} (e : H a = some (.lst xs)) (l : xs.length ≤ 1000000) (t : ∀ v ∈ xs, TyW K H v) (hb : (decide (xs.length ≤ m) && xs.all (btw 0 255)) = false) : SgT K H m (.ref a) false := hb ▸ SgT.lst e l t
theorem ix_int {ns : List Int} {k : Nat} {z : Int} (h : ns[k]? = some z) : atI (ns.map V.int) (k : Int) = some (.int z) := atI_nat (by rw [List.getElem?_map, h]; rfl)
theorem g_popAt {H : Hp} {Q : VK} {p : Addr} {xs : List V} {k : Nat} {y : V} (h : H p = some (.lst xs)) (hb : k < 100000) (hx : xs[k]? = some y) (q : Q y (upd H p (.lst (xs.eraseIdx k)))) : rPopAt (.ref p) [.int (k : Int)] H Q :=
  ⟨p, xs, (k : Int), k, y, rfl, rfl, h, by omega, by omega, by
    rw [seqIndex_of (by omega) (by have := (List.getElem?_eq_some_iff.mp hx).1; omega)]
    rfl, hx, q⟩
abbrev mostW (w : Int) : Nat := if w = 0 then 1000 else 12000
def dTr : PyData := .tuple [.bool true, .int 0]
theorem dTr_lay : dTr.canLay0 = true := by decide
theorem dTr_dep : dTr.depth ≤ 64 := by decide
theorem tr_dp {K : PySem.W.Frag} {H : Hp} {p : Addr} (h : H p = some (.tup [.bl true, .int 0])) : Dp K H (.ref p) dTr := .tup (stt_of h) (.cons (.bl true) (.cons (.int 0) .nil))
section
variable (K : PySem.W.Frag) [HasExc K "NoText"] [HasExc K "NoBytes"] [HasExm K "NoText" "ForetellError" true] [HasExm K "NoBytes" "ForetellError" true] [HasKitT K "NoText" "ValueError" true] [HasKitT K "NoBytes" "ValueError" true] [HasKit K "NoText" "NoText" true] [HasKit K "NoText" "NoBytes" false] [HasKit K "NoBytes" "NoText" false] [HasKit K "NoBytes" "NoBytes" true]
  [HasKit K "NoText" "NoBit" false] [HasKit K "NoText" "NoChance" false] [HasKit K "NoText" "NoPress" false] [HasKit K "NoText" "TooLong" false] [HasKit K "NoBytes" "NoBit" false] [HasKit K "NoBytes" "NoChance" false] [HasKit K "NoBytes" "NoPress" false] [HasKit K "NoBytes" "TooLong" false]
def F_Ltold (K : PySem.W.Frag) : V → V → Hp → VK → XK → Prop := fun x y H Q _ => ∃ (w : Int) (b : Bool), x = .int w ∧ (w = 0 ∨ w = 1) ∧ SgT K H (mostW w) y b ∧ (b = false → ∀ (p : Addr) (H' : Hp), H p = none → Same H H' → H' p = some (.tup [.bl true, .int 0]) → Q (.ref p) H') ∧
  (b = true → ∀ (a : Addr) (ns : List Int), y = .ref a → H a = some (.lst (ns.map V.int)) → ∀ (l : Addr) (H' : Hp), H l = none → Same H H' → H' l = some (.lst (ns.map V.int)) → Q (.ref l) H')
abbrev sp_Ltold (K : PySem.W.Frag) : Sp := on2 (F_Ltold K)
def t_Ltold (K : PySem.W.Frag) (E : XK) : TS :=
  tSeq (tAsg (tLst (tCons (tC (.int 0)) (tNil))) (gName 2))
  (tSeq (tTry K (.ref (He.ga K "ForetellError")) 3 (fun W1 => tIfS (tTest (tOp (rSame K) (tVar 0) (tC (.int 0)))) (tAsg (tFun (sp_checked_text K) [] (WE W1) (tCons (tVar 1) (tNil))) (gName 2)) (tAsg (tFun (sp_checked_bytes K) [] (WE W1) (tCons (tVar 1) (tNil))) (gName 2))) (fun ea1 eD1 => tSeq (tAsg (tLst (tCons (tCB (rIsEx K eD1 ea1) (tCons (tVar 3) (tCons (tC (.ref (He.ga K "NoText"))) (tNil)))) (tCons (tCB (rIsEx K eD1 ea1) (tCons (tVar 3) (tCons (tC (.ref (He.ga K "NoBytes"))) (tNil)))) (tNil)))) (gName 4))
  (tSeq (tAsg (tOrV (tCB (rIsEx K eD1 ea1) (tCons (tVar 3) (tCons (tTup (tCons (tC (.ref (He.ga K "NoBit"))) (tCons (tC (.ref (He.ga K "NoChance"))) (tCons (tC (.ref (He.ga K "NoPress"))) (tCons (tC (.ref (He.ga K "TooLong"))) (tNil)))))) (tNil)))) (tNotV (tCB (rIsEx K eD1 ea1) (tCons (tVar 3) (tCons (tC (.ty "ValueError")) (tNil)))))) (gName 5))
  (tAsg (tTup (tCons (tAndV (tOp (rSame K) (tVar 4) (tLst (tCons (tOp (rSame K) (tVar 0) (tC (.int 0))) (tCons (tOp (rSame K) (tVar 0) (tC (.int 1))) (tNil))))) (tNotV (tVar 5))) (tCons (tC (.int 0)) (tNil)))) (gName 2)))) (fun cls d _ H => E cls d H))
  (tRet (tVar 2)))
theorem pure_Ltold {x y : V} {H : Hp} {Q : VK} {E : XK} (h : F_Ltold K x y H Q E) : t_Ltold K E ⟨fun _ H' => Q .non H', Q, fun _ _ => False, fun _ _ => False⟩ [some x, some y, none, none, none, none] H := by
  obtain ⟨w, b, rfl, hw, T, qf, qt⟩ := h
  unfold t_Ltold
  walk_at "go"
  intro k nk
  have s := same_new (u := .lst [.int 0]) (Same.refl H) nk
  generalize upd H k (.lst [.int 0]) = H1 at s
  have T1 := T.same s
  walk_at "go"
  refine g_try ?_
  walk_at "go"
  rcases hw with rfl | rfl
  · refine difY rfl ?_
    walk_at "go"
    refine ⟨b, T1, fun hb H2 s2 => ?_, fun hb a ns ea e0 tok l H2 nl s2 el => ?_⟩
    · subst hb
      refine g_we (g_caught (C := "NoText") inferInstance inferInstance fun e ne => ?_)
      walk_at "go"
      refine g_isx1 (D := "NoText") inferInstance ?_
      walk_at "go"
      refine g_isx1 (D := "NoBytes") inferInstance ?_
      walk_at "go"
      intro l1 n1
      have S1 := same_new (u := .lst [V.bl true, V.bl false]) (Same.trans s s2) n1
      have f1 : (upd H2 l1 (.lst [V.bl true, V.bl false])) l1 = some (.lst (([true, false] : List Bool).map V.bl)) := upd_same
      generalize upd H2 l1 (.lst [V.bl true, V.bl false]) = H3 at S1 f1
      walk_at "go"
      intro tp ntp
      refine g_isx0 upd_same (.cons inferInstance (.cons inferInstance (.cons inferInstance (.cons inferInstance .nil)))) ?_
      have S2 := same_new (u := .tup [V.ref (He.ga K "NoBit"), V.ref (He.ga K "NoChance"), V.ref (He.ga K "NoPress"), V.ref (He.ga K "TooLong")]) S1 ntp
      have f1 := lk_new (u := .tup [V.ref (He.ga K "NoBit"), V.ref (He.ga K "NoChance"), V.ref (He.ga K "NoPress"), V.ref (He.ga K "TooLong")]) f1 ntp
      generalize upd H3 tp (.tup [V.ref (He.ga K "NoBit"), V.ref (He.ga K "NoChance"), V.ref (He.ga K "NoPress"), V.ref (He.ga K "TooLong")]) = H4 at S2 f1
      walk_at "go"
      refine g_isxT inferInstance ?_
      walk_at "go"
      intro l2 n2
      have f2 : ∀ {o : HO}, o = .lst (([true, false] : List Bool).map V.bl) → (upd H4 l2 o) l2 = some (.lst (([true, false] : List Bool).map V.bl)) := fun e => by rw [upd_same, e]
      refine g_sameB (b := true) (sq_of (lk_new f1 n2)) (sq_of (f2 rfl)) (by decide) (by decide) (by decide) ?_
      refine ⟨_, rfl, ?_⟩
      refine iteT ?_
      walk_at "go"
      intro pr npr
      have S5 := same_new (u := .tup [V.bl true, V.int 0]) (same_new (u := .lst [V.bl (decide ((0 : Int) = 0)), V.bl (decide ((0 : Int) = 1))]) S2 n2) npr
      walk_at "go"
      refine g_unset (by repeat (first | exact SetR.zero | apply SetR.succ)) ?_
      walk_at "go"
      exact qf rfl pr _ ((same_new (u := .lst [V.bl (decide ((0 : Int) = 0)), V.bl (decide ((0 : Int) = 1))]) S2 n2).free npr) S5 upd_same
    · subst hb
      obtain ⟨a', ns', rfl, e', _⟩ := T.yes
      have ea := V.ref.inj ea
      subst ea
      rw [s _ _ e'] at e0
      have em : ns'.map V.int = ns.map V.int := HO.lst.inj (Option.some.inj e0)
      walk_at "go"
      exact qt rfl a' ns' rfl e' l H2 (s.free nl) (Same.trans s s2) (by rw [el, em])
  · refine difX (by decide) ?_
    walk_at "go"
    refine ⟨b, T1, fun hb H2 s2 => ?_, fun hb a ns ea e0 tok l H2 nl s2 el => ?_⟩
    · subst hb
      refine g_we (g_caught (C := "NoBytes") inferInstance inferInstance fun e ne => ?_)
      walk_at "go"
      refine g_isx1 (D := "NoText") inferInstance ?_
      walk_at "go"
      refine g_isx1 (D := "NoBytes") inferInstance ?_
      walk_at "go"
      intro l1 n1
      have S1 := same_new (u := .lst [V.bl false, V.bl true]) (Same.trans s s2) n1
      have f1 : (upd H2 l1 (.lst [V.bl false, V.bl true])) l1 = some (.lst (([false, true] : List Bool).map V.bl)) := upd_same
      generalize upd H2 l1 (.lst [V.bl false, V.bl true]) = H3 at S1 f1
      walk_at "go"
      intro tp ntp
      refine g_isx0 upd_same (.cons inferInstance (.cons inferInstance (.cons inferInstance (.cons inferInstance .nil)))) ?_
      have S2 := same_new (u := .tup [V.ref (He.ga K "NoBit"), V.ref (He.ga K "NoChance"), V.ref (He.ga K "NoPress"), V.ref (He.ga K "TooLong")]) S1 ntp
      have f1 := lk_new (u := .tup [V.ref (He.ga K "NoBit"), V.ref (He.ga K "NoChance"), V.ref (He.ga K "NoPress"), V.ref (He.ga K "TooLong")]) f1 ntp
      generalize upd H3 tp (.tup [V.ref (He.ga K "NoBit"), V.ref (He.ga K "NoChance"), V.ref (He.ga K "NoPress"), V.ref (He.ga K "TooLong")]) = H4 at S2 f1
      walk_at "go"
      refine g_isxT inferInstance ?_
      walk_at "go"
      intro l2 n2
      have f2 : ∀ {o : HO}, o = .lst (([false, true] : List Bool).map V.bl) → (upd H4 l2 o) l2 = some (.lst (([false, true] : List Bool).map V.bl)) := fun e => by rw [upd_same, e]
      refine g_sameB (b := true) (sq_of (lk_new f1 n2)) (sq_of (f2 rfl)) (by decide) (by decide) (by decide) ?_
      refine ⟨_, rfl, ?_⟩
      refine iteT ?_
      walk_at "go"
      intro pr npr
      have S5 := same_new (u := .tup [V.bl true, V.int 0]) (same_new (u := .lst [V.bl (decide ((1 : Int) = 0)), V.bl (decide ((1 : Int) = 1))]) S2 n2) npr
      walk_at "go"
      refine g_unset (by repeat (first | exact SetR.zero | apply SetR.succ)) ?_
      walk_at "go"
      exact qf rfl pr _ ((same_new (u := .lst [V.bl (decide ((1 : Int) = 0)), V.bl (decide ((1 : Int) = 1))]) S2 n2).free npr) S5 upd_same
    · subst hb
      obtain ⟨a', ns', rfl, e', _⟩ := T.yes
      have ea := V.ref.inj ea
      subst ea
      rw [s _ _ e'] at e0
      have em : ns'.map V.int = ns.map V.int := HO.lst.inj (Option.some.inj e0)
      walk_at "go"
      exact qt rfl a' ns' rfl e' l H2 (s.free nl) (Same.trans s s2) (by rw [el, em])
theorem sg_ints {H : Hp} {m : Nat} {a : Addr} {ns : List Int} (e : H a = some (.lst (ns.map V.int))) (hb : ∀ z ∈ ns, 0 ≤ z ∧ z ≤ 255) (hl : ns.length ≤ 20000) (hm : m ≤ 20000) : SgT K H m (.ref a) (decide (ns.length ≤ m)) := by
  by_cases h : ns.length ≤ m
  · rw [decide_eq_true h]
    exact .of e ⟨h, hb⟩ (by omega)
  · rw [decide_eq_false h]
    exact .no e (by rw [List.length_map]; omega) (fun v hv => by obtain ⟨z, _, rfl⟩ := List.mem_map.mp hv; exact .int) (by rw [List.length_map, decide_eq_false h, Bool.false_and])
def F_Lsame (K : PySem.W.Frag) : V → V → Hp → VK → XK → Prop := fun x y H Q _ => ∃ (a b : Addr) (ns : List Int), x = .ref a ∧ y = .ref b ∧ H a = some (.lst (ns.map V.int)) ∧ H b = some (.lst (ns.map V.int)) ∧ ns.length ≤ 20000 ∧ Q (.bl true) H
abbrev sp_Lsame (K : PySem.W.Frag) : Sp := on2 (F_Lsame K)
def t_Lsame (K : PySem.W.Frag) (E : XK) : TS :=
  tSeq (tIfS (tOr (tNot (tTru K (tCB (rIsi2 K) (tCons (tVar 0) (tCons (tC (.ty "list")) (tNil)))))) (tTest (tOp (rDiff K) (tCB (rLength K) (tCons (tVar 0) (tNil))) (tCB (rLength K) (tCons (tVar 1) (tNil)))))) (tRet (tC (.bl false))) (tNext))
  (tSeq (tFor (iRng1 (tCons (tCB (rLength K) (tCons (tVar 1) (tNil))) (tNil))) (gName 2) (tIfS (tOr (tNot (tTru K (tCB (rIsi2 K) (tCons (tOp (rIx K) (tVar 0) (tVar 2)) (tCons (tC (.ty "int")) (tNil)))))) (tOr (tTru K (tCB (rIsi2 K) (tCons (tOp (rIx K) (tVar 0) (tVar 2)) (tCons (tC (.ty "bool")) (tNil))))) (tTest (tOp (rDiff K) (tOp (rIx K) (tVar 0) (tVar 2)) (tOp (rIx K) (tVar 1) (tVar 2)))))) (tRet (tC (.bl false))) (tNext)))
  (tRet (tC (.bl true))))
theorem pure_Lsame {x y : V} {H : Hp} {Q : VK} {E : XK} (h : F_Lsame K x y H Q E) : t_Lsame K E ⟨fun _ H' => Q .non H', Q, fun _ _ => False, fun _ _ => False⟩ [some x, some y, none] H := by
  obtain ⟨a, b, ns, rfl, rfl, ha, hb, hn, q⟩ := h
  unfold t_Lsame
  walk_at "go"
  refine g_isi (s := "") (tn := "list") (.base (.lst ha)) (b := true) (by decide +kernel) ?_
  walk_at "go"
  rw [List.length_map]
  refine difNY rfl ?_
  walk_at "go"
  rw [List.length_map]
  refine for_R1 (k := ns.length) rfl (by omega) (fun i σ H2 => ∃ u, σ = [some (.ref a), some (.ref b), u] ∧ H2 = H) ⟨_, rfl, rfl⟩ ?_ ?_
  · rintro i σ H2 hi ⟨u, rfl, rfl⟩
    have hv : ns[i]? = some (ns[i]'(by omega)) := List.getElem?_eq_getElem (by omega)
    generalize ns[i]'(by omega) = v at hv
    have ix := ix_int hv
    walk_at "go"
    refine g_ixL (sq_of ha) ix ?_
    walk_at "go"
    refine g_isi (s := "") (tn := "int") (.base (.int v)) (b := true) (by decide +kernel) ?_
    walk_at "go"
    refine g_ixL (sq_of ha) ix ?_
    walk_at "go"
    refine g_isi (s := "") (tn := "int") (.base (.int v)) (b := false) (by decide +kernel) ?_
    walk_at "go"
    refine g_ixL (sq_of ha) ix ?_
    walk_at "go"
    refine g_ixL (sq_of hb) ix ?_
    walk_at "go"
    refine difNY rfl ?_
    walk_at "go"
    exact ⟨_, rfl, rfl⟩
  · rintro σ H2 ⟨u, rfl, rfl⟩
    walk_at "go"
    exact q
def F_Lright (K : PySem.W.Frag) : V → V → Hp → VK → XK → Prop := fun x y H Q _ => ∃ (a b : Addr) (ns : List Int), x = .ref a ∧ y = .ref b ∧ H a = some (.lst (ns.map V.int)) ∧ H b = some (.lst (ns.map V.int)) ∧ ns.length ≤ 20000 ∧ (∀ z ∈ ns, 0 ≤ z ∧ z ≤ 255) ∧ ∀ H', Same H H' → Q (.bl true) H'
abbrev sp_Lright (K : PySem.W.Frag) : Sp := on2 (F_Lright K)
def t_Lright (K : PySem.W.Frag) (E : XK) : TS :=
  tSeq (tFor (iRng1 (tCons (tC (.int 2)) (tNil))) (gName 2) (tSeq (tAsg (tFun (sp_Ltold K) [] (fun _ => E) (tCons (tVar 2) (tCons (tVar 0) (tNil)))) (gName 3))
  (tIfS (tTest (tOp (iGt) (tCB (rLength K) (tCons (tVar 1) (tNil))) (tOp (rIx K) (tLst (tCons (tC (.int 1000)) (tCons (tC (.int 12000)) (tNil)))) (tVar 2)))) (tIfS (tTest (tOp (rDiff K) (tVar 3) (tTup (tCons (tC (.bl true)) (tCons (tC (.int 0)) (tNil)))))) (tRet (tC (.bl false))) (tNext)) (tSeq (tIfS (tOr (tNot (tTru K (tFun (sp_Lsame K) [] (fun _ => E) (tCons (tVar 3) (tCons (tVar 1) (tNil)))))) (tNot (tTru K (tFun (sp_Lsame K) [] (fun _ => E) (tCons (tVar 0) (tCons (tVar 1) (tNil))))))) (tRet (tC (.bl false))) (tNext))
  (tDrop (tBM K "list" (rAppend) (tVar 3) (tCons (tC (.int 0)) (tNil))))))))
  (tRet (tFun (sp_Lsame K) [] (fun _ => E) (tCons (tVar 0) (tCons (tVar 1) (tNil)))))
theorem pure_Lright {x y : V} {H : Hp} {Q : VK} {E : XK} (h : F_Lright K x y H Q E) : t_Lright K E ⟨fun _ H' => Q .non H', Q, fun _ _ => False, fun _ _ => False⟩ [some x, some y, none, none] H := by
  obtain ⟨a, b, ns, rfl, rfl, ha, hb, hn, hz, q⟩ := h
  unfold t_Lright
  walk_at "go"
  refine for_R1 (k := 2) rfl (by decide) (fun i σ H2 => ∃ u2 u3, σ = [some (.ref a), some (.ref b), u2, u3] ∧ Same H H2) ⟨_, _, rfl, Same.refl _⟩ ?_ ?_
  · rintro i σ H2 hi ⟨u2, u3, rfl, s⟩
    have ha2 := s _ _ ha
    have hb2 := s _ _ hb
    have hw : (i : Int) = 0 ∨ (i : Int) = 1 := by omega
    have m20 : mostW (i : Int) ≤ 20000 := by unfold mostW; split <;> decide
    have im : atI [V.int 1000, V.int 12000] (i : Int) = some (.int (mostW (i : Int) : Int)) := by
      rcases hw with h | h <;> rw [h] <;> rfl
    walk_at "go"
    refine ⟨(i : Int), _, rfl, hw, sg_ints K ha2 hz hn m20, fun hf p H3 np s3 ep => ?_, fun hf a' ns' ea e' l H3 nl s3 el => ?_⟩
    · have hf : ¬ ns.length ≤ mostW (i : Int) := of_decide_eq_false hf
      have hb3 := s3 _ _ hb2
      walk_at "go"
      intro t nt
      walk_at "go"
      refine g_ixL (sq_of upd_same) im ?_
      have ep := lk_new (u := .lst [V.int 1000, V.int 12000]) ep nt
      have s4 := same_new (u := .lst [V.int 1000, V.int 12000]) (Same.trans s s3) nt
      generalize upd H3 t (.lst [V.int 1000, V.int 12000]) = H4 at ep s4
      walk_at "go"
      rw [List.length_map]
      refine difY (by omega) ?_
      walk_at "go"
      intro t2 nt2
      refine g_diffR (tr_dp (lk_new ep nt2)) (tr_dp upd_same) dTr_lay dTr_dep ?_
      refine ⟨_, rfl, ?_⟩
      refine iteF ?_
      refine g_next ?_
      exact ⟨_, _, rfl, same_new s4 nt2⟩
    · have hf : ns.length ≤ mostW (i : Int) := of_decide_eq_true hf
      have ea := V.ref.inj ea
      subst ea
      rw [ha2] at e'
      have em : ns.map V.int = ns'.map V.int := HO.lst.inj (Option.some.inj e')
      rw [← em] at el
      have hb3 := s3 _ _ hb2
      have ha3 := s3 _ _ ha2
      walk_at "go"
      intro t nt
      walk_at "go"
      refine g_ixL (sq_of upd_same) im ?_
      have el := lk_new (u := .lst [V.int 1000, V.int 12000]) el nt
      have hb3 := lk_new (u := .lst [V.int 1000, V.int 12000]) hb3 nt
      have ha3 := lk_new (u := .lst [V.int 1000, V.int 12000]) ha3 nt
      have s4 := same_new (u := .lst [V.int 1000, V.int 12000]) (Same.trans s s3) nt
      generalize upd H3 t (.lst [V.int 1000, V.int 12000]) = H4 at el hb3 ha3 s4
      walk_at "go"
      rw [List.length_map]
      refine difX (by omega) ?_
      walk_at "go"
      refine ⟨l, b, ns, rfl, rfl, el, hb3, hn, ?_⟩
      walk_at "go"
      refine ⟨a, b, ns, rfl, rfl, ha3, hb3, hn, ?_⟩
      walk_at "go"
      exact ⟨_, _, rfl, same_mut s4 (s.free nl)⟩
  · rintro σ H2 ⟨u2, u3, rfl, s⟩
    walk_at "go"
    exact ⟨a, b, ns, rfl, rfl, s _ _ ha, s _ _ hb, hn, q _ s⟩
def F_Llong (K : PySem.W.Frag) : V → V → Hp → VK → XK → Prop := fun x y H Q _ => ∃ (a : Addr) (zs : List Int) (n : Int), x = .int n ∧ y = .ref a ∧ H a = some (.lst (zs.map V.int)) ∧ zs.length ≤ 63 ∧ (∀ z ∈ zs, 0 ≤ z ∧ z ≤ 255) ∧ ∀ (l : Addr) (ns : List Int) (H' : Hp), Same H H' → H' l = some (.lst (ns.map V.int)) → ns.length ≤ 12001 → (∀ z ∈ ns, 0 ≤ z ∧ z ≤ 255) → Q (.ref l) H'
abbrev sp_Llong (K : PySem.W.Frag) : Sp := on2 (F_Llong K)
def t_Llong (K : PySem.W.Frag) (E : XK) : TS :=
  tSeq (tIfS (tTest (tOp (rSame K) (tOp (rRest) (tOp (rFloor) (tVar 0) (tC (.int 3))) (tC (.int 8))) (tC (.int 1)))) (tSeq (tAsg (tOp (rIx K) (tLst (tCons (tC (.int 1000)) (tCons (tC (.int 1001)) (tCons (tC (.int 12000)) (tCons (tC (.int 12001)) (tNil)))))) (tOp (rRest) (tOp (rFloor) (tVar 0) (tC (.int 24))) (tC (.int 4)))) (gName 2))
  (tSeq (tAsg (tOp (rTimes) (tOp (rPlus K) (tVar 1) (tLst (tCons (tOp (rRest) (tVar 0) (tC (.int 251))) (tNil)))) (tOp (rPlus K) (tOp (rFloor) (tVar 2) (tOp (rPlus K) (tCB (rLength K) (tCons (tVar 1) (tNil))) (tC (.int 1)))) (tC (.int 1)))) (gName 1))
  (tRet (tSl (rSlL K) (tVar 1) (tNoPart) (tPart (tVar 2)))))) (tNext))
  (tRet (tVar 1))
theorem pure_Llong {x y : V} {H : Hp} {Q : VK} {E : XK} (h : F_Llong K x y H Q E) : t_Llong K E ⟨fun _ H' => Q .non H', Q, fun _ _ => False, fun _ _ => False⟩ [some x, some y, none] H := by
  obtain ⟨a, zs, n, rfl, rfl, ha, zl, zb, q⟩ := h
  unfold t_Llong
  walk_at "go"
  refine dif (fun h => ?_) fun h => ?_
  · walk_at "go"
    intro p np
    obtain ⟨sz, es, hsz⟩ : ∃ sz : Nat, atI [V.int 1000, V.int 1001, V.int 12000, V.int 12001] (n / 24 % 4) = some (.int (sz : Int)) ∧ sz ≤ 12001 := by
      have h : n / 24 % 4 = 0 ∨ n / 24 % 4 = 1 ∨ n / 24 % 4 = 2 ∨ n / 24 % 4 = 3 := by omega
      rcases h with h | h | h | h <;> rw [h]
      · exact ⟨1000, rfl, by decide⟩
      · exact ⟨1001, rfl, by decide⟩
      · exact ⟨12000, rfl, by decide⟩
      · exact ⟨12001, rfl, by decide⟩
    walk_at "go"
    refine g_ixL (sq_of upd_same) es ?_
    have ha1 := lk_new (u := .lst [V.int 1000, V.int 1001, V.int 12000, V.int 12001]) ha np
    have S := same_new (u := .lst [V.int 1000, V.int 1001, V.int 12000, V.int 12001]) (Same.refl H) np
    generalize upd H p (.lst [V.int 1000, V.int 1001, V.int 12000, V.int 12001]) = H1 at ha1 S
    clear es np
    walk_at "go"
    intro p2 np2
    have ha2 := lk_new (u := .lst [V.int (n % 251)]) ha1 np2
    have e2 : (upd H1 p2 (.lst [V.int (n % 251)])) p2 = some (.lst [V.int (n % 251)]) := upd_same
    have S := same_new (u := .lst [V.int (n % 251)]) S np2
    generalize upd H1 p2 (.lst [V.int (n % 251)]) = H2 at ha2 e2 S
    clear np2 ha1
    walk_at "go"
    intro p3 np3
    have ha3 := lk_new (u := .lst (zs.map V.int ++ [V.int (n % 251)])) ha2 np3
    have e3 : (upd H2 p3 (.lst (zs.map V.int ++ [V.int (n % 251)]))) p3 = some (.lst ((zs ++ [n % 251]).map V.int)) := by rw [upd_same, List.map_append]; rfl
    have S := same_new (u := .lst (zs.map V.int ++ [V.int (n % 251)])) S np3
    generalize upd H2 p3 (.lst (zs.map V.int ++ [V.int (n % 251)])) = H3 at ha3 e3 S
    have zl2 : (zs ++ [n % 251]).length = zs.length + 1 := by rw [List.length_append]; rfl
    have zb2 : ∀ z ∈ zs ++ [n % 251], 0 ≤ z ∧ z ≤ 255 := fun z hz => by
      rcases List.mem_append.mp hz with y | y
      · exact zb z y
      · rw [List.mem_singleton.mp y]; omega
    generalize zs ++ [n % 251] = ws at e3 zl2 zb2
    clear np3 ha2 e2
    walk_at "go"
    rw [List.length_map]
    refine g_floor (cdw48 (by omega) (by omega)) ?_
    walk_at "go"
    obtain ⟨f, ef, hf⟩ : ∃ f : Nat, (sz : Int) / ((zs.length : Int) + 1) + 1 = (f : Int) ∧ f * (zs.length + 1) ≤ sz + zs.length + 1 := by
      refine ⟨sz / (zs.length + 1) + 1, by rw [show ((zs.length : Int) + 1) = ((zs.length + 1 : Nat) : Int) by omega]; omega, ?_⟩
      rw [Nat.add_mul, Nat.one_mul]
      have := Nat.div_mul_le_self sz (zs.length + 1)
      omega
    rw [ef]
    have f12 : f ≤ 13000 := by
      have : f * 1 ≤ f * (zs.length + 1) := Nat.mul_le_mul_left f (by omega)
      omega
    refine g_rep e3 (by omega) (by omega) (Nat.le_trans (m := 1000000) (by rw [List.length_map, zl2, show (f : Int).toNat = f by omega, Nat.mul_comm]; omega) (by decide)) fun p4 np4 => ?_
    have fl : (List.replicate (f : Int).toNat (ws.map V.int)).flatten = ((List.replicate f ws).flatten).map V.int := by rw [List.map_flatten, List.map_replicate]; rfl
    rw [fl]
    have fm : ∀ z ∈ (List.replicate f ws).flatten, 0 ≤ z ∧ z ≤ 255 := fun z hz => by
      obtain ⟨l, hl, hz⟩ := List.mem_flatten.mp hz
      rw [List.eq_of_mem_replicate hl] at hz
      exact zb2 z hz
    generalize (List.replicate f ws).flatten = ls at fm
    have e4 : (upd H3 p4 (.lst (ls.map V.int))) p4 = some (.lst (ls.map V.int)) := upd_same
    have S := same_new (u := .lst (ls.map V.int)) S np4
    generalize upd H3 p4 (.lst (ls.map V.int)) = H4 at e4 S
    walk_at "go"
    intro p5 np5
    exact q p5 (ls.take sz) _ (same_new S np5) (by rw [upd_same, cutV_map, cutL_to]) (by rw [List.length_take]; omega) fun z hz => fm z (List.mem_of_mem_take hz)
  · refine g_next ?_
    walk_at "go"
    exact q a zs H (Same.refl _) ha (by omega) zb
theorem bad_text {H : Hp} {m : Nat} {a : Addr} {xs ys : List Int} {v : V} (e : H a = some (.lst (xs.map V.int ++ [v] ++ ys.map V.int))) (hl : xs.length + ys.length ≤ 20000) (tv : TyW K H v) (bv : btw 0 255 v = false) : SgT K H m (.ref a) false := by
  refine .no e (by simp only [List.length_append, List.length_map, List.length_singleton]; omega) (fun w hw => ?_) ?_
  · rcases List.mem_append.mp hw with y | y
    · rcases List.mem_append.mp y with y | y
      · obtain ⟨z, _, rfl⟩ := List.mem_map.mp y
        exact .int
      · rw [List.mem_singleton.mp y]; exact tv
    · obtain ⟨z, _, rfl⟩ := List.mem_map.mp y
      exact .int
  · have : (xs.map V.int ++ [v] ++ ys.map V.int).all (btw 0 255) = false := by
      rw [List.all_append, List.all_append, List.all_cons, bv, Bool.false_and, Bool.and_false, Bool.false_and]
    rw [this, Bool.and_false]
def F_law (K : PySem.W.Frag) : V → Hp → VK → XK → Prop := fun x H Q _ => ∃ (a : Addr) (ns : List Int), x = .ref a ∧ SqL K H a (ns.map V.int) ∧ ns.length ≤ 63 ∧ ∀ H', Q (.bl true) H'
abbrev sp_law (K : PySem.W.Frag) : Sp := on1 (F_law K)
def t_law (K : PySem.W.Frag) (E : XK) : TS :=
  tSeq (tAsg (tOp (rRest) (tFun (sp_Lcell_at K) [] (fun _ => E) (tCons (tVar 0) (tCons (tC (.int 0)) (tNil)))) (tOp (rPow) (tC (.int 10)) (tC (.int 15)))) (gName 1))
  (tSeq (tAsg (tFun (sp_Llong K) [] (fun _ => E) (tCons (tVar 1) (tCons (tLc (iList K (tSl (rSlL K) (tVar 0) (tPart (tC (.int 2))) (tPart (tC (.int 202))))) (gName 6) (tYes) (tOp (rRest) (tVar 6) (tC (.int 256))) [6]) (tNil)))) (gName 2))
  (tSeq (tIfS (tNot (tTru K (tFun (sp_Lright K) [] (fun _ => E) (tCons (tCB (rListOf K) (tCons (tVar 2) (tNil))) (tCons (tVar 2) (tNil)))))) (tRet (tC (.bl false))) (tNext))
  (tSeq (tIfS (tTest (tOp (rSame K) (tOp (rRest) (tVar 1) (tC (.int 2))) (tC (.int 0)))) (tRet (tC (.bl true))) (tNext))
  (tSeq (tAsg (tOp (rRest) (tFun (sp_Lcell_at K) [] (fun _ => E) (tCons (tVar 0) (tCons (tC (.int 1)) (tNil)))) (tC (.int 13))) (gName 3))
  (tSeq (tAsg (tOp (rRest) (tOp (rFloor) (tFun (sp_Lcell_at K) [] (fun _ => E) (tCons (tVar 0) (tCons (tC (.int 1)) (tNil)))) (tC (.int 13))) (tOp (rPlus K) (tCB (rLength K) (tCons (tVar 2) (tNil))) (tC (.int 1)))) (gName 4))
  (tSeq (tIfS (tTest (tOp (iGt) (tVar 3) (tC (.int 7)))) (tSeq (tAsg (tOp (rIx K) (tLst (tCons (tC .non) (tCons (tC (.int 7)) (tCons (tC (.str "ab")) (tCons (tCB (rTupleOf K) (tCons (tVar 2) (tNil))) (tCons (tDisp [(tC (.int 0), tC (.int 1))]) (tNil))))))) (tOp (rMinus) (tVar 3) (tC (.int 8)))) (gName 5))
  (tRet (tAndV (tOp (rSame K) (tFun (sp_Ltold K) [] (fun _ => E) (tCons (tC (.int 0)) (tCons (tVar 5) (tNil)))) (tTup (tCons (tC (.bl true)) (tCons (tC (.int 0)) (tNil))))) (tOp (rSame K) (tFun (sp_Ltold K) [] (fun _ => E) (tCons (tC (.int 1)) (tCons (tVar 5) (tNil)))) (tTup (tCons (tC (.bl true)) (tCons (tC (.int 0)) (tNil)))))))) (tNext))
  (tSeq (tAsg (tOp (rPlus K) (tOp (rPlus K) (tSl (rSlL K) (tVar 2) (tNoPart) (tPart (tVar 4))) (tLst (tCons (tOp (rIx K) (tLst (tCons (tC (.int 256)) (tCons (tUn rNeg (tC (.int 1))) (tCons (tOp (rPow) (tC (.int 10)) (tC (.int 60))) (tCons (tC (.bl true)) (tCons (tC (.bl false)) (tCons (tC .non) (tCons (tC (.str "a")) (tCons (tLst (tCons (tC (.int 1)) (tNil))) (tNil)))))))))) (tVar 3)) (tNil)))) (tSl (rSlL K) (tVar 2) (tPart (tVar 4)) (tNoPart))) (gName 5))
  (tSeq (tIfS (tOr (tTest (tOp (rDiff K) (tFun (sp_Ltold K) [] (fun _ => E) (tCons (tC (.int 0)) (tCons (tVar 5) (tNil)))) (tTup (tCons (tC (.bl true)) (tCons (tC (.int 0)) (tNil)))))) (tTest (tOp (rDiff K) (tFun (sp_Ltold K) [] (fun _ => E) (tCons (tC (.int 1)) (tCons (tVar 5) (tNil)))) (tTup (tCons (tC (.bl true)) (tCons (tC (.int 0)) (tNil))))))) (tRet (tC (.bl false))) (tNext))
  (tSeq (tDrop (tBM K "list" (rPopAt) (tVar 5) (tCons (tVar 4) (tNil))))
  (tRet (tFun (sp_Lright K) [] (fun _ => E) (tCons (tVar 5) (tCons (tVar 2) (tNil))))))))))))))
theorem pure_law {x : V} {H : Hp} {Q : VK} {E : XK} (h : F_law K x H Q E) : t_law K E ⟨fun _ H' => Q .non H', Q, fun _ _ => False, fun _ _ => False⟩ [some x, none, none, none, none, none, none] H := by
  obtain ⟨sc, cs, rfl, hs, hcn, q⟩ := h
  unfold t_law
  walk_at "go"
  refine ⟨sc, cs, 0, rfl, rfl, hs, ?_⟩
  walk_at "go"
  generalize cell cs 0 % 1000000000000000 = n
  intro c nc
  have S := same_new (u := .lst (cutV (cs.map V.int) (some 2) (some 202))) (Same.refl H) nc
  have cl : (cutL cs (some 2) (some 202)).length ≤ 63 := Nat.le_trans (cutL_len _ _ _) hcn
  have ec : (upd H c (.lst (cutV (cs.map V.int) (some 2) (some 202)))) c = some (.lst ((cutL cs (some 2) (some 202)).map V.int)) := by rw [upd_same, cutV_map]
  generalize upd H c (.lst (cutV (cs.map V.int) (some 2) (some 202))) = H1 at ec S
  generalize cutL cs (some 2) (some 202) = zs at cl ec
  refine lc_LI (sq_of ec) (fun z => .int (z % 256)) (by omega) (fun z _ D2 H6 Q6 s6 k => ?_) fun t H2 nt s2 et => ?_
  · walk_at "go"
    exact k _ (Same.refl _)
  have et : H2 t = some (.lst ((zs.map fun z => z % 256).map V.int)) := by rw [et, List.map_map]; rfl
  have tb : ∀ v ∈ zs.map fun z => z % 256, 0 ≤ v ∧ v ≤ 255 := fun v hv => by
    obtain ⟨z, _, rfl⟩ := List.mem_map.mp hv
    omega
  have tl : (zs.map fun z => z % 256).length ≤ 63 := by rw [List.length_map]; exact cl
  generalize (zs.map fun z => z % 256) = ts at et tb tl
  have S := Same.trans S s2
  clear s2 nt ec nc
  walk_at "go"
  refine ⟨t, ts, n, rfl, rfl, et, tl, tb, fun a ns H3 s3 ea nl nb => ?_⟩
  have S := Same.trans S s3
  clear et s3 tb tl
  walk_at "go"
  intro b nb'
  have eb : (upd H3 b (.lst (ns.map V.int))) b = some (.lst (ns.map V.int)) := upd_same
  have ea1 := lk_new (u := .lst (ns.map V.int)) ea nb'
  have S := same_new (u := .lst (ns.map V.int)) S nb'
  generalize upd H3 b (.lst (ns.map V.int)) = H4 at eb ea1 S
  clear ea nb'
  walk_at "go"
  refine ⟨b, a, ns, rfl, rfl, eb, ea1, by omega, nb, fun H5 s5 => ?_⟩
  have ea := s5 _ _ ea1
  have S := Same.trans S s5
  clear s5 eb ea1
  walk_at "go"
  refine dif (fun h => ?_) fun h => ?_
  · walk_at "go"
    exact q _
  refine g_next ?_
  have hs5 := S.seq hs
  walk_at "go"
  refine ⟨sc, cs, 1, rfl, rfl, hs5, ?_⟩
  walk_at "go"
  refine ⟨sc, cs, 1, rfl, rfl, hs5, ?_⟩
  walk_at "go"
  generalize cell cs 1 = c1
  rw [List.length_map]
  refine g_rest (show (0 : Int) < (ns.length : Int) + 1 by omega) ?_
  obtain ⟨j, ej, hj⟩ : ∃ j : Nat, c1 / 13 % ((ns.length : Int) + 1) = (j : Int) ∧ j ≤ ns.length := ⟨(c1 / 13 % ((ns.length : Int) + 1)).toNat, by
    have := Int.emod_nonneg (c1 / 13) (show ((ns.length : Int) + 1) ≠ 0 by omega)
    omega, by
    have := Int.emod_lt_of_pos (c1 / 13) (show 0 < (ns.length : Int) + 1 by omega)
    omega⟩
  rw [ej]
  clear ej
  generalize hw : c1 % 13 = w
  have w0 : 0 ≤ w ∧ w < 13 := by omega
  walk_at "go"
  refine dif (fun h2 => ?_) fun h2 => ?_
  · walk_at "go"
    intro t1 n1
    have e1 : (upd H5 t1 (.tup (ns.map V.int))) t1 = some (.tup (ns.map V.int)) := upd_same
    generalize upd H5 t1 (.tup (ns.map V.int)) = H6 at e1
    walk_at "go"
    refine g_disp1 fun d nd => ?_
    have e1 := lk_new (u := .dK [(.inl 0, .int 1)]) e1 nd
    have ed : (upd H6 d (.dK [(.inl 0, .int 1)])) d = some (.dK [(.inl 0, .int 1)]) := upd_same
    generalize upd H6 d (.dK [(.inl 0, .int 1)]) = H7 at e1 ed
    walk_at "go"
    intro l nl
    have el : (upd H7 l (.lst [.non, .int 7, .str "ab", .ref t1, .ref d])) l = some (.lst [.non, .int 7, .str "ab", .ref t1, .ref d]) := upd_same
    have e1 := lk_new (u := .lst [.non, .int 7, .str "ab", .ref t1, .ref d]) e1 nl
    have ed := lk_new (u := .lst [.non, .int 7, .str "ab", .ref t1, .ref d]) ed nl
    generalize upd H7 l (.lst [.non, .int 7, .str "ab", .ref t1, .ref d]) = H8 at e1 ed el
    have k : ∃ v, atI [.non, .int 7, .str "ab", .ref t1, .ref d] (w - 8) = some v ∧ ∀ m, SgT K H8 m v false := by
      have k : w - 8 = 0 ∨ w - 8 = 1 ∨ w - 8 = 2 ∨ w - 8 = 3 ∨ w - 8 = 4 := by omega
      rcases k with k | k | k | k | k <;> rw [k]
      · exact ⟨_, rfl, fun m => .other (.base .non) (by decide +kernel)⟩
      · exact ⟨_, rfl, fun m => .other (.base (.int _)) (by decide +kernel)⟩
      · exact ⟨_, rfl, fun m => .other (.base (.str _)) (by decide +kernel)⟩
      · exact ⟨_, rfl, fun m => .other (.base (.tup e1)) (by decide +kernel)⟩
      · exact ⟨_, rfl, fun m => .other (.base (.dK ed)) (by decide +kernel)⟩
    obtain ⟨v, ev, hv⟩ := k
    walk_at "go"
    refine g_ixL (sq_of el) ev ?_
    walk_at "go"
    refine ⟨0, false, rfl, .inl rfl, hv _, fun _ p H9 np s9 ep => ?_, fun z => nomatch z⟩
    walk_at "go"
    intro t2 nt2
    refine g_sameR (tr_dp (lk_new ep nt2)) (tr_dp upd_same) dTr_lay dTr_dep ?_
    have s10 := same_new (u := .tup [V.bl true, V.int 0]) s9 nt2
    generalize upd H9 t2 (.tup [V.bl true, V.int 0]) = H10 at s10
    walk_at "go"
    refine ⟨1, false, rfl, .inr rfl, (hv _).same s10, fun _ p H11 np s11 ep => ?_, fun z => nomatch z⟩
    walk_at "go"
    intro t3 nt3
    exact g_sameR (tr_dp (lk_new ep nt3)) (tr_dp upd_same) dTr_lay dTr_dep (q _)
  · refine g_next ?_
    walk_at "go"
    intro s1 ns1
    have e1 : (upd H5 s1 (.lst (cutV (ns.map V.int) none (some (j : Int))))) s1 = some (.lst ((ns.take j).map V.int)) := by rw [upd_same, cutV_map, cutL_to]
    have ea := lk_new (u := .lst (cutV (ns.map V.int) none (some (j : Int)))) ea ns1
    generalize upd H5 s1 (.lst (cutV (ns.map V.int) none (some (j : Int)))) = H6 at e1 ea
    walk_at "go"
    intro p1 np1
    have f1 : (upd H6 p1 (.lst [V.int 1])) p1 = some (.lst [V.int 1]) := upd_same
    have e1 := lk_new (u := .lst [V.int 1]) e1 np1
    have ea := lk_new (u := .lst [V.int 1]) ea np1
    generalize upd H6 p1 (.lst [V.int 1]) = H7 at e1 ea f1
    walk_at "go"
    intro p2 np2
    have k : ∃ v, atI [V.int 256, V.int (-1), V.int (10 ^ 60), V.bl true, V.bl false, V.non, V.str "a", V.ref p1] w = some v ∧ (∀ H', Same H7 H' → TyW K H' v) ∧ btw 0 255 v = false := by
      have k : w = 0 ∨ w = 1 ∨ w = 2 ∨ w = 3 ∨ w = 4 ∨ w = 5 ∨ w = 6 ∨ w = 7 := by omega
      clear hw
      rcases k with rfl | rfl | rfl | rfl | rfl | rfl | rfl | rfl
      · exact ⟨_, rfl, fun _ _ => .int, by decide⟩
      · exact ⟨_, rfl, fun _ _ => .int, by decide⟩
      · exact ⟨_, rfl, fun _ _ => .int, by decide +kernel⟩
      · exact ⟨_, rfl, fun _ _ => ty_bl, rfl⟩
      · exact ⟨_, rfl, fun _ _ => ty_bl, rfl⟩
      · exact ⟨_, rfl, fun _ _ => ty_non, rfl⟩
      · exact ⟨_, rfl, fun _ _ => ty_str, rfl⟩
      · exact ⟨_, rfl, fun _ s => ty_lst (s _ _ f1), rfl⟩
    obtain ⟨v, ev, tv, bv⟩ := k
    have S7 := same_new (u := .lst [V.int 256, V.int (-1), V.int (10 ^ 60), V.bl true, V.bl false, V.non, V.str "a", V.ref p1]) (Same.refl H7) np2
    have e1 := S7 _ _ e1
    have ea := S7 _ _ ea
    have e2 : (upd H7 p2 (.lst [V.int 256, V.int (-1), V.int (10 ^ 60), V.bl true, V.bl false, V.non, V.str "a", V.ref p1])) p2 = some (.lst [V.int 256, V.int (-1), V.int (10 ^ 60), V.bl true, V.bl false, V.non, V.str "a", V.ref p1]) := upd_same
    generalize upd H7 p2 (.lst [V.int 256, V.int (-1), V.int (10 ^ 60), V.bl true, V.bl false, V.non, V.str "a", V.ref p1]) = H8 at S7 e1 e2 ea
    clear f1 np2 np1 ns1
    walk_at "go"
    refine g_ixL (sq_of e2) ev ?_
    walk_at "go"
    intro p3 np3
    have e3 : (upd H8 p3 (.lst [v])) p3 = some (.lst [v]) := upd_same
    have e1 := lk_new (u := .lst [v]) e1 np3
    have ea := lk_new (u := .lst [v]) ea np3
    have S7 := same_new (u := .lst [v]) S7 np3
    generalize upd H8 p3 (.lst [v]) = H9 at S7 e1 e3 ea
    clear e2 np3
    have tl : (ns.take j).length = j := by rw [List.length_take]; omega
    have dl : (ns.drop j).length ≤ 12001 := by rw [List.length_drop]; omega
    have dl2 : (ns.take j).length + (ns.drop j).length = ns.length := by rw [List.length_take, List.length_drop]; omega
    walk_at "go"
    intro p4 np4
    have e4 : (upd H9 p4 (.lst ((ns.take j).map V.int ++ [v]))) p4 = some (.lst ((ns.take j).map V.int ++ [v])) := upd_same
    have ea := lk_new (u := .lst ((ns.take j).map V.int ++ [v])) ea np4
    have S7 := same_new (u := .lst ((ns.take j).map V.int ++ [v])) S7 np4
    generalize upd H9 p4 (.lst ((ns.take j).map V.int ++ [v])) = H10 at S7 e4 ea
    clear e1 e3 np4
    walk_at "go"
    intro p5 np5
    have e5 : (upd H10 p5 (.lst (cutV (ns.map V.int) (some (j : Int)) none))) p5 = some (.lst ((ns.drop j).map V.int)) := by rw [upd_same, cutV_map, cutL_from]
    have ea := lk_new (u := .lst (cutV (ns.map V.int) (some (j : Int)) none)) ea np5
    have e4 := lk_new (u := .lst (cutV (ns.map V.int) (some (j : Int)) none)) e4 np5
    have S7 := same_new (u := .lst (cutV (ns.map V.int) (some (j : Int)) none)) S7 np5
    generalize upd H10 p5 (.lst (cutV (ns.map V.int) (some (j : Int)) none)) = H11 at S7 e4 e5 ea
    clear np5
    walk_at "go"
    intro p6 np6
    have e6 : (upd H11 p6 (.lst ((ns.take j).map V.int ++ [v] ++ (ns.drop j).map V.int))) p6 = some (.lst ((ns.take j).map V.int ++ [v] ++ (ns.drop j).map V.int)) := upd_same
    have ea := lk_new (u := .lst ((ns.take j).map V.int ++ [v] ++ (ns.drop j).map V.int)) ea np6
    have S7 := same_new (u := .lst ((ns.take j).map V.int ++ [v] ++ (ns.drop j).map V.int)) S7 np6
    have nea : a ≠ p6 := fun z => by
      have := ea
      rw [z, e6] at this
      have := congrArg List.length (HO.lst.inj (Option.some.inj this))
      simp only [List.length_append, List.length_map, List.length_singleton] at this
      omega
    generalize upd H11 p6 (.lst ((ns.take j).map V.int ++ [v] ++ (ns.drop j).map V.int)) = H12 at S7 e6 ea
    clear np6 e4 e5
    walk_at "go"
    refine ⟨0, false, rfl, .inl rfl, bad_text K e6 (by omega) (tv _ S7) bv, fun _ p H13 np s13 ep => ?_, fun z => nomatch z⟩
    walk_at "go"
    intro t2 nt2
    refine g_diffR (tr_dp (lk_new ep nt2)) (tr_dp upd_same) dTr_lay dTr_dep ?_
    have s14 := same_new (u := .tup [V.bl true, V.int 0]) s13 nt2
    generalize upd H13 t2 (.tup [V.bl true, V.int 0]) = H14 at s14
    walk_at "go"
    refine ⟨1, false, rfl, .inr rfl, bad_text K (s14 _ _ e6) (by omega) (tv _ (Same.trans S7 s14)) bv, fun _ p H15 np s15 ep => ?_, fun z => nomatch z⟩
    walk_at "go"
    intro t3 nt3
    refine g_diffR (tr_dp (lk_new ep nt3)) (tr_dp upd_same) dTr_lay dTr_dep ?_
    have s16 := same_new (u := .tup [V.bl true, V.int 0]) (Same.trans s14 s15) nt3
    generalize upd H15 t3 (.tup [V.bl true, V.int 0]) = H16 at s16
    have e6 := s16 _ _ e6
    have ea := s16 _ _ ea
    clear s16 s15 s14 s13 ep
    walk_at "go"
    have hv : ((ns.take j).map V.int ++ [v] ++ (ns.drop j).map V.int)[j]? = some v := by
      rw [List.append_assoc, List.getElem?_append_right (by rw [List.length_map, tl]; exact Nat.le_refl _), List.length_map, tl, Nat.sub_self]
      rfl
    refine g_popAt e6 (by omega) hv ?_
    have e7 : (upd H16 p6 (.lst (((ns.take j).map V.int ++ [v] ++ (ns.drop j).map V.int).eraseIdx j))) p6 = some (.lst (ns.map V.int)) := by
      rw [upd_same, List.append_assoc, List.eraseIdx_append_of_length_le (by rw [List.length_map, tl]; exact Nat.le_refl _), List.length_map, tl, Nat.sub_self]
      show some (HO.lst ((ns.take j).map V.int ++ (ns.drop j).map V.int)) = _
      rw [← List.map_append, List.take_append_drop]
    have ea := lk_mut (u := .lst (((ns.take j).map V.int ++ [v] ++ (ns.drop j).map V.int).eraseIdx j)) nea ea
    generalize upd H16 p6 (.lst (((ns.take j).map V.int ++ [v] ++ (ns.drop j).map V.int).eraseIdx j)) = H17 at e7 ea
    walk_at "go"
    exact ⟨p6, a, ns, rfl, rfl, e7, ea, by omega, nb, fun H18 _ => q _⟩
theorem law_here (K : PySem.W.Frag) (H : Hp) (a : Addr) (ns : List Int) (hl : ns.length ≤ 63) (hS : SqL K H a (ns.map V.int)) : sp_law K [.ref a] H (fun v _ => v = .bl true) fun _ _ _ => False :=
  ⟨.ref a, rfl, a, ns, rfl, hS, hl, fun _ => rfl⟩
end
end Fo
namespace Fo
open PySem PySem.Spec PyProof.Rows L2
section
variable {P : Program} {w : World} {K : PySem.W.Frag} {mg : Str → Option Value} {base h : Heap}
theorem cb_is_whole (KX : K.In h) (G : h.Ns mainGlobals mg) (c : SaysX fa fn xf K) : Cb P w K mg base 1 (He.fAd K ("is_whole", none)) ["thing"] [] (sp_is_whole K) :=
  cb_of (T := t_is_whole K) (c.def_ 0 rfl) sc_is_whole (fun vs H Q E h => by
    obtain ⟨_, rfl, _⟩ := h
    rfl) (fun _ _ _ _ _ _ us hl => match us, hl with | [_], _ => rfl)
   (fun cdv A outer s H E hr => by
    have nd := sc_is_whole.nd
    have ho := out_def (cxD_takes (P := P) (w := w) (K := K) (mg := mg) (base := base) (N := N_is_whole) (qual := "is_whole") (st := s_is_whole) (f := He.fAd K ("is_whole", none)) (cdv := cdv) (A := A) (outer := outer) (s := s) (H := H) (E := E))
    have tk := cxD_takes (P := P) (w := w) (K := K) (mg := mg) (base := base) (N := N_is_whole) (qual := "is_whole") (st := s_is_whole) (f := He.fAd K ("is_whole", none)) (cdv := cdv) (A := A) (outer := outer) (s := s) (H := H) (E := E)
    have pz := cxD_passes (P := P) (w := w) (K := K) (mg := mg) (base := base) (N := N_is_whole) (qual := "is_whole") (st := s_is_whole) (f := He.fAd K ("is_whole", none)) (cdv := cdv) (A := A) (outer := outer) (s := s) (H := H) (E := E)
    exact pss_one (ps_ret (pe_and (pe_callB c_isi (by rfl) (He.free_ok KX G (c.fact 2 rfl)) (by decide +kernel) (pa_cons (pv 0) (pa_cons (pe_gty (He.free_ok KX G (c.fact 3 rfl)) (by decide +kernel)) (pa_nil)))) (pe_one (pe_not (pe_callB c_isi (by rfl) (He.free_ok KX G (c.fact 2 rfl)) (by decide +kernel) (pa_cons (pv 0) (pa_cons (pe_gty (He.free_ok KX G (c.fact 4 rfl)) (by decide +kernel)) (pa_nil)))))))))
   (fun vs H Q E h => by
    obtain ⟨_, rfl, h⟩ := h
    haveI : HasExc K "NoText" := hexc_ok (c.ext 0 rfl)
    haveI : HasExm K "NoText" "ForetellError" true := hexm_ok (c.fact 0 rfl)
    haveI : HasKitT K "NoText" "ValueError" true := kitT_ok (c.ext 1 rfl)
    haveI : HasKit K "NoText" "NoText" true := kit_ok (c.ext 2 rfl)
    haveI : HasKit K "NoText" "NoBytes" false := kit_ok (c.ext 3 rfl)
    haveI : HasKit K "NoText" "NoBit" false := kit_ok (c.ext 4 rfl)
    haveI : HasKit K "NoText" "NoChance" false := kit_ok (c.ext 5 rfl)
    haveI : HasKit K "NoText" "NoPress" false := kit_ok (c.ext 6 rfl)
    haveI : HasKit K "NoText" "TooLong" false := kit_ok (c.ext 7 rfl)
    haveI : HasExc K "NoBytes" := hexc_ok (c.ext 8 rfl)
    haveI : HasExm K "NoBytes" "ForetellError" true := hexm_ok (c.fact 1 rfl)
    haveI : HasKitT K "NoBytes" "ValueError" true := kitT_ok (c.ext 9 rfl)
    haveI : HasKit K "NoBytes" "NoText" false := kit_ok (c.ext 10 rfl)
    haveI : HasKit K "NoBytes" "NoBytes" true := kit_ok (c.ext 11 rfl)
    haveI : HasKit K "NoBytes" "NoBit" false := kit_ok (c.ext 12 rfl)
    haveI : HasKit K "NoBytes" "NoChance" false := kit_ok (c.ext 13 rfl)
    haveI : HasKit K "NoBytes" "NoPress" false := kit_ok (c.ext 14 rfl)
    haveI : HasKit K "NoBytes" "TooLong" false := kit_ok (c.ext 15 rfl)
    exact pure_is_whole K h)
theorem cb_Lcell_at (KX : K.In h) (G : h.Ns mainGlobals mg) (c : SaysX fa fn xf K) : Cb P w K mg base 1 (He.fAd K ("_law_cell_at", none)) ["_law_script", "_law_k"] [] (sp_Lcell_at K) :=
  cb_of (T := t_Lcell_at K) (c.def_ 5 rfl) sc_Lcell_at (fun vs H Q E h => by
    obtain ⟨_, _, rfl, _⟩ := h
    rfl) (fun _ _ _ _ _ _ us hl => match us, hl with | [_, _], _ => rfl)
   (fun cdv A outer s H E hr => by
    have nd := sc_Lcell_at.nd
    have ho := out_def (cxD_takes (P := P) (w := w) (K := K) (mg := mg) (base := base) (N := N_Lcell_at) (qual := "_law_cell_at") (st := s_Lcell_at) (f := He.fAd K ("_law_cell_at", none)) (cdv := cdv) (A := A) (outer := outer) (s := s) (H := H) (E := E))
    have tk := cxD_takes (P := P) (w := w) (K := K) (mg := mg) (base := base) (N := N_Lcell_at) (qual := "_law_cell_at") (st := s_Lcell_at) (f := He.fAd K ("_law_cell_at", none)) (cdv := cdv) (A := A) (outer := outer) (s := s) (H := H) (E := E)
    have pz := cxD_passes (P := P) (w := w) (K := K) (mg := mg) (base := base) (N := N_Lcell_at) (qual := "_law_cell_at") (st := s_Lcell_at) (f := He.fAd K ("_law_cell_at", none)) (cdv := cdv) (A := A) (outer := outer) (s := s) (H := H) (E := E)
    exact pss_cons (ps_if (pt_cmpR o_lt (pv 1) (pe_callB c_len (by rfl) (He.free_ok KX G (c.fact 5 rfl)) (by decide +kernel) (pa_cons (pv 0) (pa_nil))) (nomark _)) (pss_one (ps_ret (pe_ix ix_seq (pv 0) (pv 1) (fun _ _ => rfl)))) (pss_nil))
       (pss_one (ps_ret (pe_int))))
   (fun vs H Q E h => by
    obtain ⟨_, _, rfl, h⟩ := h
    haveI : HasExc K "NoText" := hexc_ok (c.ext 0 rfl)
    haveI : HasExm K "NoText" "ForetellError" true := hexm_ok (c.fact 0 rfl)
    haveI : HasKitT K "NoText" "ValueError" true := kitT_ok (c.ext 1 rfl)
    haveI : HasKit K "NoText" "NoText" true := kit_ok (c.ext 2 rfl)
    haveI : HasKit K "NoText" "NoBytes" false := kit_ok (c.ext 3 rfl)
    haveI : HasKit K "NoText" "NoBit" false := kit_ok (c.ext 4 rfl)
    haveI : HasKit K "NoText" "NoChance" false := kit_ok (c.ext 5 rfl)
    haveI : HasKit K "NoText" "NoPress" false := kit_ok (c.ext 6 rfl)
    haveI : HasKit K "NoText" "TooLong" false := kit_ok (c.ext 7 rfl)
    haveI : HasExc K "NoBytes" := hexc_ok (c.ext 8 rfl)
    haveI : HasExm K "NoBytes" "ForetellError" true := hexm_ok (c.fact 1 rfl)
    haveI : HasKitT K "NoBytes" "ValueError" true := kitT_ok (c.ext 9 rfl)
    haveI : HasKit K "NoBytes" "NoText" false := kit_ok (c.ext 10 rfl)
    haveI : HasKit K "NoBytes" "NoBytes" true := kit_ok (c.ext 11 rfl)
    haveI : HasKit K "NoBytes" "NoBit" false := kit_ok (c.ext 12 rfl)
    haveI : HasKit K "NoBytes" "NoChance" false := kit_ok (c.ext 13 rfl)
    haveI : HasKit K "NoBytes" "NoPress" false := kit_ok (c.ext 14 rfl)
    haveI : HasKit K "NoBytes" "TooLong" false := kit_ok (c.ext 15 rfl)
    exact pure_Lcell_at K h)
theorem cb_Lsame (KX : K.In h) (G : h.Ns mainGlobals mg) (c : SaysX fa fn xf K) : Cb P w K mg base 1 (He.fAd K ("_law_same", none)) ["_law_found", "_law_signs"] [] (sp_Lsame K) :=
  cb_of (T := t_Lsame K) (c.def_ 7 rfl) sc_Lsame (fun vs H Q E h => by
    obtain ⟨_, _, rfl, _⟩ := h
    rfl) (fun _ _ _ _ _ _ us hl => match us, hl with | [_, _], _ => rfl)
   (fun cdv A outer s H E hr => by
    have nd := sc_Lsame.nd
    have ho := out_def (cxD_takes (P := P) (w := w) (K := K) (mg := mg) (base := base) (N := N_Lsame) (qual := "_law_same") (st := s_Lsame) (f := He.fAd K ("_law_same", none)) (cdv := cdv) (A := A) (outer := outer) (s := s) (H := H) (E := E))
    have tk := cxD_takes (P := P) (w := w) (K := K) (mg := mg) (base := base) (N := N_Lsame) (qual := "_law_same") (st := s_Lsame) (f := He.fAd K ("_law_same", none)) (cdv := cdv) (A := A) (outer := outer) (s := s) (H := H) (E := E)
    have pz := cxD_passes (P := P) (w := w) (K := K) (mg := mg) (base := base) (N := N_Lsame) (qual := "_law_same") (st := s_Lsame) (f := He.fAd K ("_law_same", none)) (cdv := cdv) (A := A) (outer := outer) (s := s) (H := H) (E := E)
    exact pss_cons (ps_if (PW.pt (pw_or (pt_not (pt_tru (pe_callB c_isi (by rfl) (He.free_ok KX G (c.fact 2 rfl)) (by decide +kernel) (pa_cons (pv 0) (pa_cons (pe_gty (He.free_ok KX G (c.fact 6 rfl)) (by decide +kernel)) (pa_nil)))))) (pw_or1 (pt_cmpR (o_diff hr.units) (pe_callB c_len (by rfl) (He.free_ok KX G (c.fact 5 rfl)) (by decide +kernel) (pa_cons (pv 0) (pa_nil))) (pe_callB c_len (by rfl) (He.free_ok KX G (c.fact 5 rfl)) (by decide +kernel) (pa_cons (pv 1) (pa_nil))) (nomark _))))) (pss_one (ps_ret (pe_bl))) (pss_nil))
       (pss_cons (ps_for pz rfl (pi_range1 (by rfl) (He.free_ok KX G (c.fact 7 rfl)) (pa_cons (pe_callB c_len (by rfl) (He.free_ok KX G (c.fact 5 rfl)) (by decide +kernel) (pa_cons (pv 1) (pa_nil))) (pa_nil))) (pg_name (i := 2) nd rfl (by first | exact Or.inl rfl | exact Or.inr rfl)) (pss_one (ps_if (PW.pt (pw_or (pt_not (pt_tru (pe_callB c_isi (by rfl) (He.free_ok KX G (c.fact 2 rfl)) (by decide +kernel) (pa_cons (pe_ix ix_seq (pv 0) (pv 2) (fun _ _ => rfl)) (pa_cons (pe_gty (He.free_ok KX G (c.fact 3 rfl)) (by decide +kernel)) (pa_nil)))))) (pw_or (pt_tru (pe_callB c_isi (by rfl) (He.free_ok KX G (c.fact 2 rfl)) (by decide +kernel) (pa_cons (pe_ix ix_seq (pv 0) (pv 2) (fun _ _ => rfl)) (pa_cons (pe_gty (He.free_ok KX G (c.fact 4 rfl)) (by decide +kernel)) (pa_nil))))) (pw_or1 (pt_cmpR (o_diff hr.units) (pe_ix ix_seq (pv 0) (pv 2) (fun _ _ => rfl)) (pe_ix ix_seq (pv 1) (pv 2) (fun _ _ => rfl)) (nomark _)))))) (pss_one (ps_ret (pe_bl))) (pss_nil))))
       (pss_one (ps_ret (pe_bl)))))
   (fun vs H Q E h => by
    obtain ⟨_, _, rfl, h⟩ := h
    haveI : HasExc K "NoText" := hexc_ok (c.ext 0 rfl)
    haveI : HasExm K "NoText" "ForetellError" true := hexm_ok (c.fact 0 rfl)
    haveI : HasKitT K "NoText" "ValueError" true := kitT_ok (c.ext 1 rfl)
    haveI : HasKit K "NoText" "NoText" true := kit_ok (c.ext 2 rfl)
    haveI : HasKit K "NoText" "NoBytes" false := kit_ok (c.ext 3 rfl)
    haveI : HasKit K "NoText" "NoBit" false := kit_ok (c.ext 4 rfl)
    haveI : HasKit K "NoText" "NoChance" false := kit_ok (c.ext 5 rfl)
    haveI : HasKit K "NoText" "NoPress" false := kit_ok (c.ext 6 rfl)
    haveI : HasKit K "NoText" "TooLong" false := kit_ok (c.ext 7 rfl)
    haveI : HasExc K "NoBytes" := hexc_ok (c.ext 8 rfl)
    haveI : HasExm K "NoBytes" "ForetellError" true := hexm_ok (c.fact 1 rfl)
    haveI : HasKitT K "NoBytes" "ValueError" true := kitT_ok (c.ext 9 rfl)
    haveI : HasKit K "NoBytes" "NoText" false := kit_ok (c.ext 10 rfl)
    haveI : HasKit K "NoBytes" "NoBytes" true := kit_ok (c.ext 11 rfl)
    haveI : HasKit K "NoBytes" "NoBit" false := kit_ok (c.ext 12 rfl)
    haveI : HasKit K "NoBytes" "NoChance" false := kit_ok (c.ext 13 rfl)
    haveI : HasKit K "NoBytes" "NoPress" false := kit_ok (c.ext 14 rfl)
    haveI : HasKit K "NoBytes" "TooLong" false := kit_ok (c.ext 15 rfl)
    exact pure_Lsame K h)
theorem cb_Llong (KX : K.In h) (G : h.Ns mainGlobals mg) (c : SaysX fa fn xf K) : Cb P w K mg base 1 (He.fAd K ("_law_long", none)) ["_law_cell", "_law_signs"] [] (sp_Llong K) :=
  cb_of (T := t_Llong K) (c.def_ 9 rfl) sc_Llong (fun vs H Q E h => by
    obtain ⟨_, _, rfl, _⟩ := h
    rfl) (fun _ _ _ _ _ _ us hl => match us, hl with | [_, _], _ => rfl)
   (fun cdv A outer s H E hr => by
    have nd := sc_Llong.nd
    have ho := out_def (cxD_takes (P := P) (w := w) (K := K) (mg := mg) (base := base) (N := N_Llong) (qual := "_law_long") (st := s_Llong) (f := He.fAd K ("_law_long", none)) (cdv := cdv) (A := A) (outer := outer) (s := s) (H := H) (E := E))
    have tk := cxD_takes (P := P) (w := w) (K := K) (mg := mg) (base := base) (N := N_Llong) (qual := "_law_long") (st := s_Llong) (f := He.fAd K ("_law_long", none)) (cdv := cdv) (A := A) (outer := outer) (s := s) (H := H) (E := E)
    have pz := cxD_passes (P := P) (w := w) (K := K) (mg := mg) (base := base) (N := N_Llong) (qual := "_law_long") (st := s_Llong) (f := He.fAd K ("_law_long", none)) (cdv := cdv) (A := A) (outer := outer) (s := s) (H := H) (E := E)
    exact pss_cons (ps_if (pt_cmpR (o_same hr.units) (pe_op o_rest (pe_op o_floor (pv 0) (pe_int)) (pe_int)) (pe_int) (nomark _)) (pss_cons (ps_set (i := 2) nd rfl (by first | exact Or.inl rfl | exact Or.inr rfl) (pe_ix ix_seq (pe_lst (pa_cons (pe_int) (pa_cons (pe_int) (pa_cons (pe_int) (pa_cons (pe_int) (pa_nil)))))) (pe_op o_rest (pe_op o_floor (pv 0) (pe_int)) (pe_int)) (fun _ _ => rfl)))
       (pss_cons (ps_set (i := 1) nd rfl (by first | exact Or.inl rfl | exact Or.inr rfl) (pe_op o_times (pe_op o_plus (pv 1) (pe_lst (pa_cons (pe_op o_rest (pv 0) (pe_int)) (pa_nil)))) (pe_op o_plus (pe_op o_floor (pv 2) (pe_op o_plus (pe_callB c_len (by rfl) (He.free_ok KX G (c.fact 5 rfl)) (by decide +kernel) (pa_cons (pv 1) (pa_nil))) (pe_int))) (pe_int))))
       (pss_one (ps_ret (pe_slice sl_list (pv 1) (po_none) (po_some (pv 2))))))) (pss_nil))
       (pss_one (ps_ret (pv 1))))
   (fun vs H Q E h => by
    obtain ⟨_, _, rfl, h⟩ := h
    haveI : HasExc K "NoText" := hexc_ok (c.ext 0 rfl)
    haveI : HasExm K "NoText" "ForetellError" true := hexm_ok (c.fact 0 rfl)
    haveI : HasKitT K "NoText" "ValueError" true := kitT_ok (c.ext 1 rfl)
    haveI : HasKit K "NoText" "NoText" true := kit_ok (c.ext 2 rfl)
    haveI : HasKit K "NoText" "NoBytes" false := kit_ok (c.ext 3 rfl)
    haveI : HasKit K "NoText" "NoBit" false := kit_ok (c.ext 4 rfl)
    haveI : HasKit K "NoText" "NoChance" false := kit_ok (c.ext 5 rfl)
    haveI : HasKit K "NoText" "NoPress" false := kit_ok (c.ext 6 rfl)
    haveI : HasKit K "NoText" "TooLong" false := kit_ok (c.ext 7 rfl)
    haveI : HasExc K "NoBytes" := hexc_ok (c.ext 8 rfl)
    haveI : HasExm K "NoBytes" "ForetellError" true := hexm_ok (c.fact 1 rfl)
    haveI : HasKitT K "NoBytes" "ValueError" true := kitT_ok (c.ext 9 rfl)
    haveI : HasKit K "NoBytes" "NoText" false := kit_ok (c.ext 10 rfl)
    haveI : HasKit K "NoBytes" "NoBytes" true := kit_ok (c.ext 11 rfl)
    haveI : HasKit K "NoBytes" "NoBit" false := kit_ok (c.ext 12 rfl)
    haveI : HasKit K "NoBytes" "NoChance" false := kit_ok (c.ext 13 rfl)
    haveI : HasKit K "NoBytes" "NoPress" false := kit_ok (c.ext 14 rfl)
    haveI : HasKit K "NoBytes" "TooLong" false := kit_ok (c.ext 15 rfl)
    exact pure_Llong K h)
theorem cb_is_sign (KX : K.In h) (G : h.Ns mainGlobals mg) (c : SaysX fa fn xf K) : Cb P w K mg base 2 (He.fAd K ("is_sign", none)) ["thing"] [] (sp_is_sign K) :=
  cb_of (T := t_is_sign K) (c.def_ 1 rfl) sc_is_sign (fun vs H Q E h => by
    obtain ⟨_, rfl, _⟩ := h
    rfl) (fun _ _ _ _ _ _ us hl => match us, hl with | [_], _ => rfl)
   (fun cdv A outer s H E hr => by
    have nd := sc_is_sign.nd
    have ho := out_def (cxD_takes (P := P) (w := w) (K := K) (mg := mg) (base := base) (N := N_is_sign) (qual := "is_sign") (st := s_is_sign) (f := He.fAd K ("is_sign", none)) (cdv := cdv) (A := A) (outer := outer) (s := s) (H := H) (E := E))
    have tk := cxD_takes (P := P) (w := w) (K := K) (mg := mg) (base := base) (N := N_is_sign) (qual := "is_sign") (st := s_is_sign) (f := He.fAd K ("is_sign", none)) (cdv := cdv) (A := A) (outer := outer) (s := s) (H := H) (E := E)
    have pz := cxD_passes (P := P) (w := w) (K := K) (mg := mg) (base := base) (N := N_is_sign) (qual := "is_sign") (st := s_is_sign) (f := He.fAd K ("is_sign", none)) (cdv := cdv) (A := A) (outer := outer) (s := s) (H := H) (E := E)
    exact pss_one (ps_ret (pe_and (pe_fun (cb_is_whole KX G c) (hr.mono (by decide)) (He.glo_ok KX G (c.fact 8 rfl)) ho (pa_cons (pv 0) (pa_nil))) (pe_one (pe_chain o_le o_le (pe_int) (pv 0) (pe_int))))))
   (fun vs H Q E h => by
    obtain ⟨_, rfl, h⟩ := h
    haveI : HasExc K "NoText" := hexc_ok (c.ext 0 rfl)
    haveI : HasExm K "NoText" "ForetellError" true := hexm_ok (c.fact 0 rfl)
    haveI : HasKitT K "NoText" "ValueError" true := kitT_ok (c.ext 1 rfl)
    haveI : HasKit K "NoText" "NoText" true := kit_ok (c.ext 2 rfl)
    haveI : HasKit K "NoText" "NoBytes" false := kit_ok (c.ext 3 rfl)
    haveI : HasKit K "NoText" "NoBit" false := kit_ok (c.ext 4 rfl)
    haveI : HasKit K "NoText" "NoChance" false := kit_ok (c.ext 5 rfl)
    haveI : HasKit K "NoText" "NoPress" false := kit_ok (c.ext 6 rfl)
    haveI : HasKit K "NoText" "TooLong" false := kit_ok (c.ext 7 rfl)
    haveI : HasExc K "NoBytes" := hexc_ok (c.ext 8 rfl)
    haveI : HasExm K "NoBytes" "ForetellError" true := hexm_ok (c.fact 1 rfl)
    haveI : HasKitT K "NoBytes" "ValueError" true := kitT_ok (c.ext 9 rfl)
    haveI : HasKit K "NoBytes" "NoText" false := kit_ok (c.ext 10 rfl)
    haveI : HasKit K "NoBytes" "NoBytes" true := kit_ok (c.ext 11 rfl)
    haveI : HasKit K "NoBytes" "NoBit" false := kit_ok (c.ext 12 rfl)
    haveI : HasKit K "NoBytes" "NoChance" false := kit_ok (c.ext 13 rfl)
    haveI : HasKit K "NoBytes" "NoPress" false := kit_ok (c.ext 14 rfl)
    haveI : HasKit K "NoBytes" "TooLong" false := kit_ok (c.ext 15 rfl)
    exact pure_is_sign K h)
theorem cb_are_signs (KX : K.In h) (G : h.Ns mainGlobals mg) (c : SaysX fa fn xf K) : Cb P w K mg base 3 (He.fAd K ("are_signs", none)) ["thing", "most"] [] (sp_are_signs K) :=
  cb_of (T := t_are_signs K) (c.def_ 2 rfl) sc_are_signs (fun vs H Q E h => by
    obtain ⟨_, _, rfl, _⟩ := h
    rfl) (fun _ _ _ _ _ _ us hl => match us, hl with | [_, _], _ => rfl)
   (fun cdv A outer s H E hr => by
    have nd := sc_are_signs.nd
    have ho := out_def (cxD_takes (P := P) (w := w) (K := K) (mg := mg) (base := base) (N := N_are_signs) (qual := "are_signs") (st := s_are_signs) (f := He.fAd K ("are_signs", none)) (cdv := cdv) (A := A) (outer := outer) (s := s) (H := H) (E := E))
    have tk := cxD_takes (P := P) (w := w) (K := K) (mg := mg) (base := base) (N := N_are_signs) (qual := "are_signs") (st := s_are_signs) (f := He.fAd K ("are_signs", none)) (cdv := cdv) (A := A) (outer := outer) (s := s) (H := H) (E := E)
    have pz := cxD_passes (P := P) (w := w) (K := K) (mg := mg) (base := base) (N := N_are_signs) (qual := "are_signs") (st := s_are_signs) (f := He.fAd K ("are_signs", none)) (cdv := cdv) (A := A) (outer := outer) (s := s) (H := H) (E := E)
    exact pss_cons (ps_if (PW.pt (pw_or (pt_not (pt_tru (pe_callB c_isi (by rfl) (He.free_ok KX G (c.fact 2 rfl)) (by decide +kernel) (pa_cons (pv 0) (pa_cons (pe_gty (He.free_ok KX G (c.fact 6 rfl)) (by decide +kernel)) (pa_nil)))))) (pw_or1 (pt_cmpR o_gt (pe_callB c_len (by rfl) (He.free_ok KX G (c.fact 5 rfl)) (by decide +kernel) (pa_cons (pv 0) (pa_nil))) (pv 1) (nomark _))))) (pss_one (ps_ret (pe_bl))) (pss_nil))
       (pss_one (ps_ret (pe_callB (c_all rfl) (by rfl) (He.free_ok KX G (c.fact 9 rfl)) (by decide +kernel) (pa_cons (pe_lc (own := [("sign", 2)]) (g := gName 2) (tt := tYes) rfl nd (pi_list (pv 0)) (blkOk_by (N := N_are_signs) (sc := defScope s_are_signs) (by decide +kernel)) (fun _ _ _ _ _ => pg_name (i := 2) nd rfl (by first | exact Or.inl rfl | exact Or.inr rfl)) (fun _ _ _ _ _ => pts_nil) (fun _ _ _ _ _ => pe_fun (cb_is_sign KX G c) (hr.mono (by decide)) (He.glo_ok KX G (c.fact 10 rfl)) out_none (pa_cons (pv 2) (pa_nil)))) (pa_nil))))))
   (fun vs H Q E h => by
    obtain ⟨_, _, rfl, h⟩ := h
    haveI : HasExc K "NoText" := hexc_ok (c.ext 0 rfl)
    haveI : HasExm K "NoText" "ForetellError" true := hexm_ok (c.fact 0 rfl)
    haveI : HasKitT K "NoText" "ValueError" true := kitT_ok (c.ext 1 rfl)
    haveI : HasKit K "NoText" "NoText" true := kit_ok (c.ext 2 rfl)
    haveI : HasKit K "NoText" "NoBytes" false := kit_ok (c.ext 3 rfl)
    haveI : HasKit K "NoText" "NoBit" false := kit_ok (c.ext 4 rfl)
    haveI : HasKit K "NoText" "NoChance" false := kit_ok (c.ext 5 rfl)
    haveI : HasKit K "NoText" "NoPress" false := kit_ok (c.ext 6 rfl)
    haveI : HasKit K "NoText" "TooLong" false := kit_ok (c.ext 7 rfl)
    haveI : HasExc K "NoBytes" := hexc_ok (c.ext 8 rfl)
    haveI : HasExm K "NoBytes" "ForetellError" true := hexm_ok (c.fact 1 rfl)
    haveI : HasKitT K "NoBytes" "ValueError" true := kitT_ok (c.ext 9 rfl)
    haveI : HasKit K "NoBytes" "NoText" false := kit_ok (c.ext 10 rfl)
    haveI : HasKit K "NoBytes" "NoBytes" true := kit_ok (c.ext 11 rfl)
    haveI : HasKit K "NoBytes" "NoBit" false := kit_ok (c.ext 12 rfl)
    haveI : HasKit K "NoBytes" "NoChance" false := kit_ok (c.ext 13 rfl)
    haveI : HasKit K "NoBytes" "NoPress" false := kit_ok (c.ext 14 rfl)
    haveI : HasKit K "NoBytes" "TooLong" false := kit_ok (c.ext 15 rfl)
    exact pure_are_signs K h)
theorem cb_checked_text (KX : K.In h) (G : h.Ns mainGlobals mg) (c : SaysX fa fn xf K) : Cb P w K mg base 4 (He.fAd K ("checked_text", none)) ["thing"] [] (sp_checked_text K) :=
  cb_of (T := t_checked_text K) (c.def_ 3 rfl) sc_checked_text (fun vs H Q E h => by
    obtain ⟨_, rfl, _⟩ := h
    rfl) (fun _ _ _ _ _ _ us hl => match us, hl with | [_], _ => rfl)
   (fun cdv A outer s H E hr => by
    have nd := sc_checked_text.nd
    have ho := out_def (cxD_takes (P := P) (w := w) (K := K) (mg := mg) (base := base) (N := N_checked_text) (qual := "checked_text") (st := s_checked_text) (f := He.fAd K ("checked_text", none)) (cdv := cdv) (A := A) (outer := outer) (s := s) (H := H) (E := E))
    have tk := cxD_takes (P := P) (w := w) (K := K) (mg := mg) (base := base) (N := N_checked_text) (qual := "checked_text") (st := s_checked_text) (f := He.fAd K ("checked_text", none)) (cdv := cdv) (A := A) (outer := outer) (s := s) (H := H) (E := E)
    have pz := cxD_passes (P := P) (w := w) (K := K) (mg := mg) (base := base) (N := N_checked_text) (qual := "checked_text") (st := s_checked_text) (f := He.fAd K ("checked_text", none)) (cdv := cdv) (A := A) (outer := outer) (s := s) (H := H) (E := E)
    exact pss_cons (ps_if (pt_not (pt_tru (pe_fun (cb_are_signs KX G c) (hr.mono (by decide)) (He.glo_ok KX G (c.fact 11 rfl)) ho (pa_cons (pv 0) (pa_cons (pe_gint (He.int_ok KX G (c.fact 12 rfl))) (pa_nil)))))) (pss_one (ps_rz (exn_ok KX G (c.fact 13 rfl) (c.fact 14 rfl)) rfl tk)) (pss_nil))
       (pss_one (ps_ret (pe_callTy c_list (by rfl) (He.free_ok KX G (c.fact 6 rfl)) (by decide +kernel) (pa_cons (pv 0) (pa_nil))))))
   (fun vs H Q E h => by
    obtain ⟨_, rfl, h⟩ := h
    haveI : HasExc K "NoText" := hexc_ok (c.ext 0 rfl)
    haveI : HasExm K "NoText" "ForetellError" true := hexm_ok (c.fact 0 rfl)
    haveI : HasKitT K "NoText" "ValueError" true := kitT_ok (c.ext 1 rfl)
    haveI : HasKit K "NoText" "NoText" true := kit_ok (c.ext 2 rfl)
    haveI : HasKit K "NoText" "NoBytes" false := kit_ok (c.ext 3 rfl)
    haveI : HasKit K "NoText" "NoBit" false := kit_ok (c.ext 4 rfl)
    haveI : HasKit K "NoText" "NoChance" false := kit_ok (c.ext 5 rfl)
    haveI : HasKit K "NoText" "NoPress" false := kit_ok (c.ext 6 rfl)
    haveI : HasKit K "NoText" "TooLong" false := kit_ok (c.ext 7 rfl)
    haveI : HasExc K "NoBytes" := hexc_ok (c.ext 8 rfl)
    haveI : HasExm K "NoBytes" "ForetellError" true := hexm_ok (c.fact 1 rfl)
    haveI : HasKitT K "NoBytes" "ValueError" true := kitT_ok (c.ext 9 rfl)
    haveI : HasKit K "NoBytes" "NoText" false := kit_ok (c.ext 10 rfl)
    haveI : HasKit K "NoBytes" "NoBytes" true := kit_ok (c.ext 11 rfl)
    haveI : HasKit K "NoBytes" "NoBit" false := kit_ok (c.ext 12 rfl)
    haveI : HasKit K "NoBytes" "NoChance" false := kit_ok (c.ext 13 rfl)
    haveI : HasKit K "NoBytes" "NoPress" false := kit_ok (c.ext 14 rfl)
    haveI : HasKit K "NoBytes" "TooLong" false := kit_ok (c.ext 15 rfl)
    exact pure_checked_text K h)
theorem cb_checked_bytes (KX : K.In h) (G : h.Ns mainGlobals mg) (c : SaysX fa fn xf K) : Cb P w K mg base 4 (He.fAd K ("checked_bytes", none)) ["thing"] [] (sp_checked_bytes K) :=
  cb_of (T := t_checked_bytes K) (c.def_ 4 rfl) sc_checked_bytes (fun vs H Q E h => by
    obtain ⟨_, rfl, _⟩ := h
    rfl) (fun _ _ _ _ _ _ us hl => match us, hl with | [_], _ => rfl)
   (fun cdv A outer s H E hr => by
    have nd := sc_checked_bytes.nd
    have ho := out_def (cxD_takes (P := P) (w := w) (K := K) (mg := mg) (base := base) (N := N_checked_bytes) (qual := "checked_bytes") (st := s_checked_bytes) (f := He.fAd K ("checked_bytes", none)) (cdv := cdv) (A := A) (outer := outer) (s := s) (H := H) (E := E))
    have tk := cxD_takes (P := P) (w := w) (K := K) (mg := mg) (base := base) (N := N_checked_bytes) (qual := "checked_bytes") (st := s_checked_bytes) (f := He.fAd K ("checked_bytes", none)) (cdv := cdv) (A := A) (outer := outer) (s := s) (H := H) (E := E)
    have pz := cxD_passes (P := P) (w := w) (K := K) (mg := mg) (base := base) (N := N_checked_bytes) (qual := "checked_bytes") (st := s_checked_bytes) (f := He.fAd K ("checked_bytes", none)) (cdv := cdv) (A := A) (outer := outer) (s := s) (H := H) (E := E)
    exact pss_cons (ps_if (pt_not (pt_tru (pe_fun (cb_are_signs KX G c) (hr.mono (by decide)) (He.glo_ok KX G (c.fact 11 rfl)) ho (pa_cons (pv 0) (pa_cons (pe_gint (He.int_ok KX G (c.fact 15 rfl))) (pa_nil)))))) (pss_one (ps_rz (exn_ok KX G (c.fact 16 rfl) (c.fact 17 rfl)) rfl tk)) (pss_nil))
       (pss_one (ps_ret (pe_callTy c_list (by rfl) (He.free_ok KX G (c.fact 6 rfl)) (by decide +kernel) (pa_cons (pv 0) (pa_nil))))))
   (fun vs H Q E h => by
    obtain ⟨_, rfl, h⟩ := h
    haveI : HasExc K "NoText" := hexc_ok (c.ext 0 rfl)
    haveI : HasExm K "NoText" "ForetellError" true := hexm_ok (c.fact 0 rfl)
    haveI : HasKitT K "NoText" "ValueError" true := kitT_ok (c.ext 1 rfl)
    haveI : HasKit K "NoText" "NoText" true := kit_ok (c.ext 2 rfl)
    haveI : HasKit K "NoText" "NoBytes" false := kit_ok (c.ext 3 rfl)
    haveI : HasKit K "NoText" "NoBit" false := kit_ok (c.ext 4 rfl)
    haveI : HasKit K "NoText" "NoChance" false := kit_ok (c.ext 5 rfl)
    haveI : HasKit K "NoText" "NoPress" false := kit_ok (c.ext 6 rfl)
    haveI : HasKit K "NoText" "TooLong" false := kit_ok (c.ext 7 rfl)
    haveI : HasExc K "NoBytes" := hexc_ok (c.ext 8 rfl)
    haveI : HasExm K "NoBytes" "ForetellError" true := hexm_ok (c.fact 1 rfl)
    haveI : HasKitT K "NoBytes" "ValueError" true := kitT_ok (c.ext 9 rfl)
    haveI : HasKit K "NoBytes" "NoText" false := kit_ok (c.ext 10 rfl)
    haveI : HasKit K "NoBytes" "NoBytes" true := kit_ok (c.ext 11 rfl)
    haveI : HasKit K "NoBytes" "NoBit" false := kit_ok (c.ext 12 rfl)
    haveI : HasKit K "NoBytes" "NoChance" false := kit_ok (c.ext 13 rfl)
    haveI : HasKit K "NoBytes" "NoPress" false := kit_ok (c.ext 14 rfl)
    haveI : HasKit K "NoBytes" "TooLong" false := kit_ok (c.ext 15 rfl)
    exact pure_checked_bytes K h)
theorem cb_Ltold (KX : K.In h) (G : h.Ns mainGlobals mg) (c : SaysX fa fn xf K) : Cb P w K mg base 5 (He.fAd K ("_law_told", none)) ["_law_way", "_law_thing"] [] (sp_Ltold K) :=
  cb_of (T := t_Ltold K) (c.def_ 6 rfl) sc_Ltold (fun vs H Q E h => by
    obtain ⟨_, _, rfl, _⟩ := h
    rfl) (fun _ _ _ _ _ _ us hl => match us, hl with | [_, _], _ => rfl)
   (fun cdv A outer s H E hr => by
    have nd := sc_Ltold.nd
    have ho := out_def (cxD_takes (P := P) (w := w) (K := K) (mg := mg) (base := base) (N := N_Ltold) (qual := "_law_told") (st := s_Ltold) (f := He.fAd K ("_law_told", none)) (cdv := cdv) (A := A) (outer := outer) (s := s) (H := H) (E := E))
    have tk := cxD_takes (P := P) (w := w) (K := K) (mg := mg) (base := base) (N := N_Ltold) (qual := "_law_told") (st := s_Ltold) (f := He.fAd K ("_law_told", none)) (cdv := cdv) (A := A) (outer := outer) (s := s) (H := H) (E := E)
    have pz := cxD_passes (P := P) (w := w) (K := K) (mg := mg) (base := base) (N := N_Ltold) (qual := "_law_told") (st := s_Ltold) (f := He.fAd K ("_law_told", none)) (cdv := cdv) (A := A) (outer := outer) (s := s) (H := H) (E := E)
    exact pss_cons (ps_set (i := 2) nd rfl (by first | exact Or.inl rfl | exact Or.inr rfl) (pe_lst (pa_cons (pe_int) (pa_nil))))
       (pss_cons (ps_tryX rfl rfl nd (i := 3) rfl rfl ⟨rfl, by decide, .inl (He.glo_ok KX G (c.fact 19 rfl))⟩ tk (fun W1 pn1 xe1 tk1 pz => pss_one (ps_if (pt_cmpR (o_same hr.units) (pv 0) (pe_int) (nomark _)) (pss_one (ps_set (i := 2) nd rfl (by first | exact Or.inl rfl | exact Or.inr rfl) (pe_fun (cb_checked_text KX G c) (hr.mono (by decide)) (He.glo_ok KX G (c.fact 20 rfl)) (out_try tk1) (pa_cons (pv 1) (pa_nil))))) (pss_one (ps_set (i := 2) nd rfl (by first | exact Or.inl rfl | exact Or.inr rfl) (pe_fun (cb_checked_bytes KX G c) (hr.mono (by decide)) (He.glo_ok KX G (c.fact 21 rfl)) (out_try tk1) (pa_cons (pv 1) (pa_nil))))))) (fun ea1 oe1 eD1 pn1 hz1 hf1 eC1 => pss_cons (ps_set (i := 4) nd rfl (by first | exact Or.inl rfl | exact Or.inr rfl) (pe_lst (pa_cons (pe_callB (c_isx eC1 hz1 hf1) (by rfl) (He.free_ok KX G (c.fact 2 rfl)) (by decide +kernel) (pa_cons (pv 3) (pa_cons (pe_gref (He.glo_ok KX G (c.fact 13 rfl))) (pa_nil)))) (pa_cons (pe_callB (c_isx eC1 hz1 hf1) (by rfl) (He.free_ok KX G (c.fact 2 rfl)) (by decide +kernel) (pa_cons (pv 3) (pa_cons (pe_gref (He.glo_ok KX G (c.fact 16 rfl))) (pa_nil)))) (pa_nil)))))
       (pss_cons (ps_set (i := 5) nd rfl (by first | exact Or.inl rfl | exact Or.inr rfl) (pe_or (pe_callB (c_isx eC1 hz1 hf1) (by rfl) (He.free_ok KX G (c.fact 2 rfl)) (by decide +kernel) (pa_cons (pv 3) (pa_cons (pe_tup (pa_cons (pe_gref (He.glo_ok KX G (c.fact 22 rfl))) (pa_cons (pe_gref (He.glo_ok KX G (c.fact 23 rfl))) (pa_cons (pe_gref (He.glo_ok KX G (c.fact 24 rfl))) (pa_cons (pe_gref (He.glo_ok KX G (c.fact 25 rfl))) (pa_nil)))))) (pa_nil)))) (pe_one (pe_not (pe_callB (c_isx eC1 hz1 hf1) (by rfl) (He.free_ok KX G (c.fact 2 rfl)) (by decide +kernel) (pa_cons (pv 3) (pa_cons (pe_gty (He.free_ok KX G (c.fact 18 rfl)) (by decide +kernel)) (pa_nil))))))))
       (pss_one (ps_set (i := 2) nd rfl (by first | exact Or.inl rfl | exact Or.inr rfl) (pe_tup (pa_cons (pe_and (pe_cmpR (o_same hr.units) (pv 4) (pe_lst (pa_cons (pe_cmpR (o_same hr.units) (pv 0) (pe_int) (nomark _)) (pa_cons (pe_cmpR (o_same hr.units) (pv 0) (pe_int) (nomark _)) (pa_nil)))) (nomark _)) (pe_one (pe_not (pv 5)))) (pa_cons (pe_int) (pa_nil)))))))))
       (pss_one (ps_ret (pv 2)))))
   (fun vs H Q E h => by
    obtain ⟨_, _, rfl, h⟩ := h
    haveI : HasExc K "NoText" := hexc_ok (c.ext 0 rfl)
    haveI : HasExm K "NoText" "ForetellError" true := hexm_ok (c.fact 0 rfl)
    haveI : HasKitT K "NoText" "ValueError" true := kitT_ok (c.ext 1 rfl)
    haveI : HasKit K "NoText" "NoText" true := kit_ok (c.ext 2 rfl)
    haveI : HasKit K "NoText" "NoBytes" false := kit_ok (c.ext 3 rfl)
    haveI : HasKit K "NoText" "NoBit" false := kit_ok (c.ext 4 rfl)
    haveI : HasKit K "NoText" "NoChance" false := kit_ok (c.ext 5 rfl)
    haveI : HasKit K "NoText" "NoPress" false := kit_ok (c.ext 6 rfl)
    haveI : HasKit K "NoText" "TooLong" false := kit_ok (c.ext 7 rfl)
    haveI : HasExc K "NoBytes" := hexc_ok (c.ext 8 rfl)
    haveI : HasExm K "NoBytes" "ForetellError" true := hexm_ok (c.fact 1 rfl)
    haveI : HasKitT K "NoBytes" "ValueError" true := kitT_ok (c.ext 9 rfl)
    haveI : HasKit K "NoBytes" "NoText" false := kit_ok (c.ext 10 rfl)
    haveI : HasKit K "NoBytes" "NoBytes" true := kit_ok (c.ext 11 rfl)
    haveI : HasKit K "NoBytes" "NoBit" false := kit_ok (c.ext 12 rfl)
    haveI : HasKit K "NoBytes" "NoChance" false := kit_ok (c.ext 13 rfl)
    haveI : HasKit K "NoBytes" "NoPress" false := kit_ok (c.ext 14 rfl)
    haveI : HasKit K "NoBytes" "TooLong" false := kit_ok (c.ext 15 rfl)
    exact pure_Ltold K h)
theorem cb_Lright (KX : K.In h) (G : h.Ns mainGlobals mg) (c : SaysX fa fn xf K) : Cb P w K mg base 6 (He.fAd K ("_law_right", none)) ["_law_thing", "_law_signs"] [] (sp_Lright K) :=
  cb_of (T := t_Lright K) (c.def_ 8 rfl) sc_Lright (fun vs H Q E h => by
    obtain ⟨_, _, rfl, _⟩ := h
    rfl) (fun _ _ _ _ _ _ us hl => match us, hl with | [_, _], _ => rfl)
   (fun cdv A outer s H E hr => by
    have nd := sc_Lright.nd
    have ho := out_def (cxD_takes (P := P) (w := w) (K := K) (mg := mg) (base := base) (N := N_Lright) (qual := "_law_right") (st := s_Lright) (f := He.fAd K ("_law_right", none)) (cdv := cdv) (A := A) (outer := outer) (s := s) (H := H) (E := E))
    have tk := cxD_takes (P := P) (w := w) (K := K) (mg := mg) (base := base) (N := N_Lright) (qual := "_law_right") (st := s_Lright) (f := He.fAd K ("_law_right", none)) (cdv := cdv) (A := A) (outer := outer) (s := s) (H := H) (E := E)
    have pz := cxD_passes (P := P) (w := w) (K := K) (mg := mg) (base := base) (N := N_Lright) (qual := "_law_right") (st := s_Lright) (f := He.fAd K ("_law_right", none)) (cdv := cdv) (A := A) (outer := outer) (s := s) (H := H) (E := E)
    exact pss_cons (ps_for pz rfl (pi_range1 (by rfl) (He.free_ok KX G (c.fact 7 rfl)) (pa_cons (pe_int) (pa_nil))) (pg_name (i := 2) nd rfl (by first | exact Or.inl rfl | exact Or.inr rfl)) (pss_cons (ps_set (i := 3) nd rfl (by first | exact Or.inl rfl | exact Or.inr rfl) (pe_fun (cb_Ltold KX G c) (hr.mono (by decide)) (He.glo_ok KX G (c.fact 26 rfl)) ho (pa_cons (pv 2) (pa_cons (pv 0) (pa_nil)))))
       (pss_one (ps_if (pt_cmpR o_gt (pe_callB c_len (by rfl) (He.free_ok KX G (c.fact 5 rfl)) (by decide +kernel) (pa_cons (pv 1) (pa_nil))) (pe_ix ix_seq (pe_lst (pa_cons (pe_int) (pa_cons (pe_int) (pa_nil)))) (pv 2) (fun _ _ => rfl)) (nomark _)) (pss_one (ps_if (pt_cmpR (o_diff hr.units) (pv 3) (pe_tup (pa_cons (pe_bl) (pa_cons (pe_int) (pa_nil)))) (nomark _)) (pss_one (ps_ret (pe_bl))) (pss_nil))) (pss_cons (ps_if (PW.pt (pw_or (pt_not (pt_tru (pe_fun (cb_Lsame KX G c) (hr.mono (by decide)) (He.glo_ok KX G (c.fact 27 rfl)) ho (pa_cons (pv 3) (pa_cons (pv 1) (pa_nil)))))) (pw_or1 (pt_not (pt_tru (pe_fun (cb_Lsame KX G c) (hr.mono (by decide)) (He.glo_ok KX G (c.fact 27 rfl)) ho (pa_cons (pv 0) (pa_cons (pv 1) (pa_nil))))))))) (pss_one (ps_ret (pe_bl))) (pss_nil))
       (pss_one (ps_expr (pe_bm PySem.F.plainAttrs_list PySem.F.slot_list_append PySem.F.type_list_append mt_append (pv 3) (pa_cons (pe_int) (pa_nil))))))))))
       (pss_one (ps_ret (pe_fun (cb_Lsame KX G c) (hr.mono (by decide)) (He.glo_ok KX G (c.fact 27 rfl)) ho (pa_cons (pv 0) (pa_cons (pv 1) (pa_nil)))))))
   (fun vs H Q E h => by
    obtain ⟨_, _, rfl, h⟩ := h
    haveI : HasExc K "NoText" := hexc_ok (c.ext 0 rfl)
    haveI : HasExm K "NoText" "ForetellError" true := hexm_ok (c.fact 0 rfl)
    haveI : HasKitT K "NoText" "ValueError" true := kitT_ok (c.ext 1 rfl)
    haveI : HasKit K "NoText" "NoText" true := kit_ok (c.ext 2 rfl)
    haveI : HasKit K "NoText" "NoBytes" false := kit_ok (c.ext 3 rfl)
    haveI : HasKit K "NoText" "NoBit" false := kit_ok (c.ext 4 rfl)
    haveI : HasKit K "NoText" "NoChance" false := kit_ok (c.ext 5 rfl)
    haveI : HasKit K "NoText" "NoPress" false := kit_ok (c.ext 6 rfl)
    haveI : HasKit K "NoText" "TooLong" false := kit_ok (c.ext 7 rfl)
    haveI : HasExc K "NoBytes" := hexc_ok (c.ext 8 rfl)
    haveI : HasExm K "NoBytes" "ForetellError" true := hexm_ok (c.fact 1 rfl)
    haveI : HasKitT K "NoBytes" "ValueError" true := kitT_ok (c.ext 9 rfl)
    haveI : HasKit K "NoBytes" "NoText" false := kit_ok (c.ext 10 rfl)
    haveI : HasKit K "NoBytes" "NoBytes" true := kit_ok (c.ext 11 rfl)
    haveI : HasKit K "NoBytes" "NoBit" false := kit_ok (c.ext 12 rfl)
    haveI : HasKit K "NoBytes" "NoChance" false := kit_ok (c.ext 13 rfl)
    haveI : HasKit K "NoBytes" "NoPress" false := kit_ok (c.ext 14 rfl)
    haveI : HasKit K "NoBytes" "TooLong" false := kit_ok (c.ext 15 rfl)
    exact pure_Lright K h)
theorem ok_law (KX : K.In h) (G : h.Ns mainGlobals mg) (c : SaysX fa fn xf K) {fd : FuncData} (F : FunD K "law" "law" (defArgs s_law) (defBody s_law) (defScope s_law) [] [] (He.fAd K ("law", none)) fd) : FnOk P w K mg base (L2.CX P w) 7 (He.fAd K ("law", none)) fd ["_law_script"] (sp_law K) :=
  ok_of (T := t_law K) F sc_law (fun vs H Q E h => by
    obtain ⟨_, rfl, _⟩ := h
    rfl)
   (fun cdv A outer s H E hr => by
    have nd := sc_law.nd
    have ho := out_def (cxD_takes (P := P) (w := w) (K := K) (mg := mg) (base := base) (N := N_law) (qual := "law") (st := s_law) (f := He.fAd K ("law", none)) (cdv := cdv) (A := A) (outer := outer) (s := s) (H := H) (E := E))
    have tk := cxD_takes (P := P) (w := w) (K := K) (mg := mg) (base := base) (N := N_law) (qual := "law") (st := s_law) (f := He.fAd K ("law", none)) (cdv := cdv) (A := A) (outer := outer) (s := s) (H := H) (E := E)
    have pz := cxD_passes (P := P) (w := w) (K := K) (mg := mg) (base := base) (N := N_law) (qual := "law") (st := s_law) (f := He.fAd K ("law", none)) (cdv := cdv) (A := A) (outer := outer) (s := s) (H := H) (E := E)
    exact pss_cons (ps_set (i := 1) nd rfl (by first | exact Or.inl rfl | exact Or.inr rfl) (pe_op o_rest (pe_fun (cb_Lcell_at KX G c) (hr.mono (by decide)) (He.glo_ok KX G (c.fact 29 rfl)) ho (pa_cons (pv 0) (pa_cons (pe_int) (pa_nil)))) (pe_op o_pow (pe_int) (pe_int))))
       (pss_cons (ps_set (i := 2) nd rfl (by first | exact Or.inl rfl | exact Or.inr rfl) (pe_fun (cb_Llong KX G c) (hr.mono (by decide)) (He.glo_ok KX G (c.fact 30 rfl)) ho (pa_cons (pv 1) (pa_cons (pe_lc (own := [("_law_number", 6)]) (g := gName 6) (tt := tYes) rfl nd (pi_list (pe_slice sl_list (pv 0) (po_some (pe_int)) (po_some (pe_int)))) (blkOk_by (N := N_law) (sc := defScope s_law) (by decide +kernel)) (fun _ _ _ _ _ => pg_name (i := 6) nd rfl (by first | exact Or.inl rfl | exact Or.inr rfl)) (fun _ _ _ _ _ => pts_nil) (fun _ _ _ _ _ => pe_op o_rest (pv 6) (pe_int))) (pa_nil)))))
       (pss_cons (ps_if (pt_not (pt_tru (pe_fun (cb_Lright KX G c) (hr.mono (by decide)) (He.glo_ok KX G (c.fact 31 rfl)) ho (pa_cons (pe_callTy c_list (by rfl) (He.free_ok KX G (c.fact 6 rfl)) (by decide +kernel) (pa_cons (pv 2) (pa_nil))) (pa_cons (pv 2) (pa_nil)))))) (pss_one (ps_ret (pe_bl))) (pss_nil))
       (pss_cons (ps_if (pt_cmpR (o_same hr.units) (pe_op o_rest (pv 1) (pe_int)) (pe_int) (nomark _)) (pss_one (ps_ret (pe_bl))) (pss_nil))
       (pss_cons (ps_set (i := 3) nd rfl (by first | exact Or.inl rfl | exact Or.inr rfl) (pe_op o_rest (pe_fun (cb_Lcell_at KX G c) (hr.mono (by decide)) (He.glo_ok KX G (c.fact 29 rfl)) ho (pa_cons (pv 0) (pa_cons (pe_int) (pa_nil)))) (pe_int)))
       (pss_cons (ps_set (i := 4) nd rfl (by first | exact Or.inl rfl | exact Or.inr rfl) (pe_op o_rest (pe_op o_floor (pe_fun (cb_Lcell_at KX G c) (hr.mono (by decide)) (He.glo_ok KX G (c.fact 29 rfl)) ho (pa_cons (pv 0) (pa_cons (pe_int) (pa_nil)))) (pe_int)) (pe_op o_plus (pe_callB c_len (by rfl) (He.free_ok KX G (c.fact 5 rfl)) (by decide +kernel) (pa_cons (pv 2) (pa_nil))) (pe_int))))
       (pss_cons (ps_if (pt_cmpR o_gt (pv 3) (pe_int) (nomark _)) (pss_cons (ps_set (i := 5) nd rfl (by first | exact Or.inl rfl | exact Or.inr rfl) (pe_ix ix_seq (pe_lst (pa_cons (pe_non) (pa_cons (pe_int) (pa_cons (pe_str) (pa_cons (pe_callTy c_tuple (by rfl) (He.free_ok KX G (c.fact 28 rfl)) (by decide +kernel) (pa_cons (pv 2) (pa_nil))) (pa_cons (pe_disp (pps_cons (pe_int) (pe_int) (pps_nil)) rfl rfl (by simp) (by decide)) (pa_nil))))))) (pe_op o_minus (pv 3) (pe_int)) (fun _ _ => rfl)))
       (pss_one (ps_ret (pe_and (pe_cmpR (o_same hr.units) (pe_fun (cb_Ltold KX G c) (hr.mono (by decide)) (He.glo_ok KX G (c.fact 26 rfl)) ho (pa_cons (pe_int) (pa_cons (pv 5) (pa_nil)))) (pe_tup (pa_cons (pe_bl) (pa_cons (pe_int) (pa_nil)))) (nomark _)) (pe_one (pe_cmpR (o_same hr.units) (pe_fun (cb_Ltold KX G c) (hr.mono (by decide)) (He.glo_ok KX G (c.fact 26 rfl)) ho (pa_cons (pe_int) (pa_cons (pv 5) (pa_nil)))) (pe_tup (pa_cons (pe_bl) (pa_cons (pe_int) (pa_nil)))) (nomark _))))))) (pss_nil))
       (pss_cons (ps_set (i := 5) nd rfl (by first | exact Or.inl rfl | exact Or.inr rfl) (pe_op o_plus (pe_op o_plus (pe_slice sl_list (pv 2) (po_none) (po_some (pv 4))) (pe_lst (pa_cons (pe_ix ix_seq (pe_lst (pa_cons (pe_int) (pa_cons (pe_un o_neg (pe_int)) (pa_cons (pe_op o_pow (pe_int) (pe_int)) (pa_cons (pe_bl) (pa_cons (pe_bl) (pa_cons (pe_non) (pa_cons (pe_str) (pa_cons (pe_lst (pa_cons (pe_int) (pa_nil))) (pa_nil)))))))))) (pv 3) (fun _ _ => rfl)) (pa_nil)))) (pe_slice sl_list (pv 2) (po_some (pv 4)) (po_none))))
       (pss_cons (ps_if (PW.pt (pw_or (pt_cmpR (o_diff hr.units) (pe_fun (cb_Ltold KX G c) (hr.mono (by decide)) (He.glo_ok KX G (c.fact 26 rfl)) ho (pa_cons (pe_int) (pa_cons (pv 5) (pa_nil)))) (pe_tup (pa_cons (pe_bl) (pa_cons (pe_int) (pa_nil)))) (nomark _)) (pw_or1 (pt_cmpR (o_diff hr.units) (pe_fun (cb_Ltold KX G c) (hr.mono (by decide)) (He.glo_ok KX G (c.fact 26 rfl)) ho (pa_cons (pe_int) (pa_cons (pv 5) (pa_nil)))) (pe_tup (pa_cons (pe_bl) (pa_cons (pe_int) (pa_nil)))) (nomark _))))) (pss_one (ps_ret (pe_bl))) (pss_nil))
       (pss_cons (ps_expr (pe_bm PySem.F.plainAttrs_list PySem.F.slot_list_pop PySem.F.type_list_pop mt_popAt (pv 5) (pa_cons (pv 4) (pa_nil))))
       (pss_one (ps_ret (pe_fun (cb_Lright KX G c) (hr.mono (by decide)) (He.glo_ok KX G (c.fact 31 rfl)) ho (pa_cons (pv 5) (pa_cons (pv 2) (pa_nil))))))))))))))))
   (fun vs H Q E h => by
    obtain ⟨_, rfl, h⟩ := h
    haveI : HasExc K "NoText" := hexc_ok (c.ext 0 rfl)
    haveI : HasExm K "NoText" "ForetellError" true := hexm_ok (c.fact 0 rfl)
    haveI : HasKitT K "NoText" "ValueError" true := kitT_ok (c.ext 1 rfl)
    haveI : HasKit K "NoText" "NoText" true := kit_ok (c.ext 2 rfl)
    haveI : HasKit K "NoText" "NoBytes" false := kit_ok (c.ext 3 rfl)
    haveI : HasKit K "NoText" "NoBit" false := kit_ok (c.ext 4 rfl)
    haveI : HasKit K "NoText" "NoChance" false := kit_ok (c.ext 5 rfl)
    haveI : HasKit K "NoText" "NoPress" false := kit_ok (c.ext 6 rfl)
    haveI : HasKit K "NoText" "TooLong" false := kit_ok (c.ext 7 rfl)
    haveI : HasExc K "NoBytes" := hexc_ok (c.ext 8 rfl)
    haveI : HasExm K "NoBytes" "ForetellError" true := hexm_ok (c.fact 1 rfl)
    haveI : HasKitT K "NoBytes" "ValueError" true := kitT_ok (c.ext 9 rfl)
    haveI : HasKit K "NoBytes" "NoText" false := kit_ok (c.ext 10 rfl)
    haveI : HasKit K "NoBytes" "NoBytes" true := kit_ok (c.ext 11 rfl)
    haveI : HasKit K "NoBytes" "NoBit" false := kit_ok (c.ext 12 rfl)
    haveI : HasKit K "NoBytes" "NoChance" false := kit_ok (c.ext 13 rfl)
    haveI : HasKit K "NoBytes" "NoPress" false := kit_ok (c.ext 14 rfl)
    haveI : HasKit K "NoBytes" "TooLong" false := kit_ok (c.ext 15 rfl)
    exact pure_law K h)
end
theorem facts {P : Program} {w : World} {K : PySem.W.Frag} {h : Heap} {mg : Str → Option Value} {f : Addr} (X : K.In h) (G : h.Ns mainGlobals mg) (hfa : mg ("law" : Str) = some (.ref f)) (c : SaysX fa fn xf K) :
    ∃ fd : FuncData, (∀ (s : Shared) (v : Value), BindsTo s fd ⟨[v], []⟩ [("_law_script", v)]) ∧ ∀ base : Heap, K.In base → base.Ns mainGlobals mg → FnOk P w K mg base (L2.CX P w) 7 f fd ["_law_script"] (sp_law K) := by
  obtain ⟨fd, F⟩ := c.def_ 10 rfl
  have e := hfa.symm.trans (He.glo_ok X G (c.fact 32 rfl))
  cases e
  have b := FunD.bindsA (ps := ["_law_script"]) F fun _ _ _ _ _ _ us hl => match us, hl with | [_], _ => rfl
  exact ⟨fd, fun s v => b s [v] rfl, fun base _ _ => ok_law (P := P) (w := w) (base := base) X G c F⟩
theorem cx_end {P : Program} {w : World} (H : Hp) (s : Shared) (e : Value) (s' : Shared) (z : L2.CX P w [] H s (fun _ _ _ => False) e s') : False := by
  obtain ⟨_, _, _, _, _, _, _, _, _, _, _, _, z⟩ := z
  exact z
end Fo
open PySem PySem.W PySem.Calls PyProof.Rows
theorem PySem.Challenge.cw_foretell_k02_texts_and_bytes_holds : PySem.Challenge.rw_foretell_k02_texts_and_bytes.Holds := by
  w_on; o_law
  refine HandSHeadRun.head_any (r := Fo.W_.row) (q := view Fo.W_.row.prog [22]) (H := Fo.hk) (ob := Fo.ob) (M := 4680) (loose := Fo.loose) (d := HandSHeadRun.topDef Fo.W_.row.prog 22) (kwd := []) Fo.ob_eq
    (by kernel_rfl) (fun s => by kernel_rfl) Fo.run (by kernel_rfl) (by kernel_rfl) (by kernel_rfl) (by rfl) (by first | assumption | decide +kernel) (by decide +kernel) ⟨rfl, rfl, rfl, rfl, rfl, by decide +kernel⟩ ?hw ?hc
  case hw => w_witness2
  case hc =>
    refine L2.walk_ofE (l := Fo.W_) (n := 63) (k := 7) (x := "_law_script") (CX := fun o H s E u s' => ∃ (P : Program) (w : World), L2.CX P w o H s E u s') rfl (by decide) (by kernel_rfl) ⟨rfl, by decide, by decide⟩ ?F (fun H s e s' z => by obtain ⟨P, w, z⟩ := z; exact Fo.cx_end H s e s' z)
    intro w mg fa h Y G hmg0
    obtain ⟨K, KX, c⟩ := Y
    have hmg : mg ("law" : PySem.Str) = some (.ref fa) := by
      have e : (HandSHeadRun.topDef Fo.W_.row.prog 22).name = ("law" : PySem.Str) := by kernel_rfl
      rw [← e]
      exact hmg0
    obtain ⟨fd, hb, hF⟩ := Fo.facts (P := Fo.W_.prog) (w := w) KX G hmg c
    exact ⟨K, fd, Fo.sp_law K, KX, hb, fun H a ns hl _ hS => Fo.law_here K H a ns hl hS, fun base hB hG => Fo.cx_any (hF base hB hG)⟩


