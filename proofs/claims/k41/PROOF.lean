import PyProof.Rows.All
import PySem.Challenge.RW_foretell_k41_learned_of
import Wide.All
import OpenK.AllK
import Wide.FinOn
import KE.KStateDown
import KE.KExcPX
import KE.GoesComp
import HandS.ForSpec
import HandS.Comp
import HandS.Conv
import HandS.Iter
import HandS.Zip
import HandS.Text
import HandS.More
import HandS.Dict
import HandS.DictComp
import HandS.Wide
import HandS.WideBits
import HandS.Flow
import HandS.IsInst
import HandS.Steps
import HandS.Defaults
import HandS.CallSlots
import HandS.CallRecv
import HandS.TryOnly
import HandS.TryElse
import HandS.ExcIs
import HandS.ExcOwn
import HandS.New0
import HandS.WordsExc
import HandS.Head0
import HandS.Head1
import HandS.Head2
import HandS.Walk
import HandS.WordsDict
import HandS.HeadEnd
import HandS.HeadHook1
import HandS.HeadHook2
set_option Elab.async false
set_option linter.all false
set_option maxRecDepth 100000
set_option maxHeartbeats 4000000
namespace Fo
open PySem PySem.Spec PyProof.Rows L2
/-! Fo: one reading for each operator, whatever the kinds of its operands; steps of readings; calls by bundles. -/
abbrev St := L2.St
abbrev Ends := L2.Ends
theorem orOp {X : Cx} {f : Value → Value → Sem Value} {r r' : R2} (h : OpR X f r) (h' : OpR X f r') : OpR X f (fun x y H Q => r x y H Q ∨ r' x y H Q) := by
  intro pins s σ H x y v u Q I rx ry q
  rcases q with q | q
  · exact h pins s σ H x y v u Q I rx ry q
  · exact h' pins s σ H x y v u Q I rx ry q
theorem orCall {X : Cx} {f : Value} {r r' : List V → Hp → VK → Prop} (h : CallR X f r) (h' : CallR X f r') : CallR X f (fun xs H Q => r xs H Q ∨ r' xs H Q) := by
  intro pins s σ H xs us Q I rs q
  rcases q with q | q
  · exact h pins s σ H xs us Q I rs q
  · exact h' pins s σ H xs us Q I rs q
/-! ### operators -/
def iAdd : R2 := rI0 fun i j => .int (i + j)
def sAdd : R2 := fun x y H Q => ∃ i j, x = .str i ∧ y = .str j ∧ i.length + j.length ≤ sizeLine ∧ Q (.str (i ++ j)) H
def rPlus (K : PySem.W.Frag) : R2 := fun x y H Q => iAdd x y H Q ∨ (rCat x y H Q ∨ (sAdd x y H Q ∨ rCatT K x y H Q))
def rMinus : R2 := rI0 fun i j => .int (i - j)
def iMul : R2 := rI IntMulOk fun i j => .int (i * j)
def rTimes : R2 := fun x y H Q => iMul x y H Q ∨ rRep x y H Q
def rFloor : R2 := rI CDivW fun i j => .int (i / j)
def rRest : R2 := rI (fun _ j => 0 < j) fun i j => .int (i % j)
def rPow : R2 := rI CPow fun i j => .int (i ^ j.toNat)
def rLsh : R2 := rI CShl fun i j => .int (i * 2 ^ j.toNat)
def rRsh : R2 := rI (fun _ j => 0 ≤ j) fun i j => .int (i / 2 ^ j.toNat)
def rMask : R2 := fun x y H Q => ∃ (i : Int) (k : Nat), x = .int i ∧ y = .int (2 ^ k - 1) ∧ Q (.int (i % 2 ^ k)) H
def rNeg : V → Hp → VK → Prop := rU fun i => .int (-i)
def iLt : R2 := rI0 fun i j => .bl (decide (i < j))
def iLe : R2 := rI0 fun i j => .bl (decide (i ≤ j))
def iGt : R2 := rI0 fun i j => .bl (decide (j < i))
def iGe : R2 := rI0 fun i j => .bl (decide (j ≤ i))
def sLe : R2 := fun x y H Q => ∃ i j, x = .str i ∧ y = .str j ∧ Q (.bl (!decide (j.cps.toList < i.cps.toList))) H
def rLe : R2 := fun x y H Q => iLe x y H Q ∨ sLe x y H Q
def rSame (K : PySem.W.Frag) : R2 := fun x y H Q => rEq x y H Q ∨ rEqD K x y H Q
def rDiff (K : PySem.W.Frag) : R2 := fun x y H Q => rNe x y H Q ∨ rNeD K x y H Q
def rDiff2 (K : PySem.W.Frag) : R2 := fun x y H Q => rDiff K x y H Q ∨ rNeDA x y H Q
def rIsNo : R2 := fun x y H Q => y = .non ∧ Q (.bl (decide (x = .non))) H
def rNotNo : R2 := fun x y H Q => y = .non ∧ Q (.bl (!decide (x = .non))) H
def rAmong (K : PySem.W.Frag) : R2 := fun x y H Q => rIn K false x y H Q ∨ rInS x y H Q
def rNotAmong (K : PySem.W.Frag) : R2 := fun x y H Q => rIn K true x y H Q ∨ rNotInS x y H Q
section
variable {X : Cx}
theorem o_plus : OpR X (binaryOp .Add) (rPlus X.K) := orOp op_add (orOp op_cat (orOp op_add_str op_catT))
theorem o_minus : OpR X (binaryOp .Sub) rMinus := op_sub
theorem o_imul : OpR X (binaryOp .Mult) iMul := opI fun _ _ _ _ _ _ _ hc q => mul_int q hc
theorem o_times : OpR X (binaryOp .Mult) rTimes := orOp o_imul op_rep
theorem o_floor : OpR X (binaryOp .FloorDiv) rFloor := op_fdivW
theorem o_rest : OpR X (binaryOp .Mod) rRest := op_mod
theorem o_pow : OpR X (binaryOp .Pow) rPow := op_pow
theorem o_lsh : OpR X (binaryOp .LShift) rLsh := op_shlW
theorem o_rsh : OpR X (binaryOp .RShift) rRsh := op_shr
theorem o_mask : OpR X (binaryOp .BitAnd) rMask := op_andM
theorem o_neg : UnR X (unaryOp .USub) rNeg := un_neg
theorem o_lt : OpR X (compareOp .Lt) iLt := op_lt
theorem o_le : OpR X (compareOp .LtE) rLe := orOp op_le op_le_str
theorem o_gt : OpR X (compareOp .Gt) iGt := op_gt
theorem o_ge : OpR X (compareOp .GtE) iGe := op_ge
theorem o_same (hu : X.A.units + 64 < cLine) : OpR X (compareOp .Eq) (rSame X.K) := orOp op_eq (op_eqD hu)
theorem o_diff (hu : X.A.units + 64 < cLine) : OpR X (compareOp .NotEq) (rDiff X.K) := orOp op_ne (op_neD hu)
theorem o_diff2 (hu : X.A.units + 64 < cLine) : OpR X (compareOp .NotEq) (rDiff2 X.K) := orOp (o_diff hu) (op_ne_dictA (by omega))
theorem o_isno : OpR X (compareOp .Is) rIsNo := op_isN
theorem o_notno : OpR X (compareOp .IsNot) rNotNo := op_notN
theorem o_among : OpR X (compareOp .In) (rAmong X.K) := orOp op_in_seq op_inS
theorem o_notamong : OpR X (compareOp .NotIn) (rNotAmong X.K) := orOp op_notIn_seq op_notInS
end
/-! ### built-ins -/
def rLength (K : PySem.W.Frag) : List V → Hp → VK → Prop := fun xs H Q => ∃ x n, xs = [x] ∧ LenV K x H n ∧ Q (.int n) H
def rListOf (K : PySem.W.Frag) : List V → Hp → VK → Prop := fun xs H Q => ∃ p ys, xs = [.ref p] ∧ (SqL K H p ys ∨ SqT K H p ys) ∧ ∀ l, H l = none → Q (.ref l) (upd H l (.lst ys))
def rTupleOf (K : PySem.W.Frag) : List V → Hp → VK → Prop := fun xs H Q => ∃ p ys, xs = [.ref p] ∧ ((SqL K H p ys ∧ ∀ l, H l = none → Q (.ref l) (upd H l (.tup ys))) ∨ (SqT K H p ys ∧ Q (.ref p) H))
def rMax2 : List V → Hp → VK → Prop := fun xs H Q => ∃ i j, xs = [.int i, .int j] ∧ Q (.int (if j > i then j else i)) H
def rMin2 : List V → Hp → VK → Prop := fun xs H Q => ∃ i j, xs = [.int i, .int j] ∧ Q (.int (if j < i then j else i)) H
def rGreatest (K : PySem.W.Frag) : List V → Hp → VK → Prop := fun xs H Q => rMax2 xs H Q ∨ L2.rMax K xs H Q
def rLeast (K : PySem.W.Frag) : List V → Hp → VK → Prop := fun xs H Q => rMin2 xs H Q ∨ L2.rMin K xs H Q
def rInt1 : List V → Hp → VK → Prop := fun xs H Q => (∃ i, xs = [.int i] ∧ Q (.int i) H) ∨ ∃ k, xs = [.bl k] ∧ Q (.int (if k then 1 else 0)) H
def rIsi2 (K : PySem.W.Frag) : List V → Hp → VK → Prop := fun xs H Q => rIsi K xs H Q ∨ rIsiT K xs H Q
section
variable {X : Cx}
theorem c_len : CallR X (.builtin "len") (rLength X.K) := call_len
theorem c_list : CallR X (.type "list") (rListOf X.K) := call_list_of
theorem c_tuple : CallR X (.type "tuple") (rTupleOf X.K) := call_tuple_of
theorem c_max (hc : X.calm = true) : CallR X (.builtin "max") (rGreatest X.K) := orCall (call_max2 hc) (cr_max hc)
theorem c_min (hc : X.calm = true) : CallR X (.builtin "min") (rLeast X.K) := orCall (call_min2 hc) (cr_min hc)
theorem c_int : CallR X (.type "int") rInt1 := call_int1
theorem c_isi : CallR X (.builtin "isinstance") (rIsi2 X.K) := orCall call_isi call_isiT
theorem c_all (hc : X.calm = true) : CallR X (.builtin "all") (rAll X.K) := cr_all hc
theorem c_any (hc : X.calm = true) : CallR X (.builtin "any") (rAny X.K) := cr_any hc
theorem c_sum (hc : X.calm = true) : CallR X (.builtin "sum") (rSum X.K) := cr_sum hc
end
/-! ### truth of a value -/
theorem pt_tru {X : Cx} {a : Expr} {ta : TE} (ha : PE X a ta) (he : ∀ whole, isTrue a X.env whole = (do let v ← whole; standAt a.pos; holding [v] (truthy v)) := by intro _; rfl) : PT X a (tTru X.K ta) := pt_truth ha he
/-! Fo, calls: a def, a method, a class, each by a bundle of what its call needs; what is raised is wished for at the slots where the call stands. -/
/-- what is raised reaches those around, whatever the slots -/
def Out (X : Cx) (E : St → XK) : Prop := ∀ σ, PassesAt (L2.CX X.prog X.w) X σ (E σ)
theorem out_try {X : Cx} {W : WX} (tk : Takes X W) : Out X (WE W) := fun σ => passAt tk σ
theorem out_def {X : Cx} {E : XK} (tk : Takes X (fun cls d _ H => E cls d H)) : Out X (fun _ => E) := fun σ => passAt tk σ
/-- nothing is let out (a comprehension's block) -/
theorem out_none {X : Cx} : Out X (fun _ => E0) := fun _ _ _ _ _ _ _ h => by
  obtain ⟨_, _, _, _, _, _, _, _, _, _, _, _, z⟩ := h
  exact z.elim
/-- a def as it may be called: level, address, parameters, the defaults that fill up, promise -/
structure Cb (P : Program) (w : World) (K : PySem.W.Frag) (mg : Str → Option Value) (base : Heap) (k : Nat) (f : Addr) (ps : List Str) (dvs : List V) (sp : Sp) : Prop where
  ex : ∃ (fd : FuncData) (ds : List Value), FnOk P w K mg base (L2.CX P w) k f fd ps sp ∧ Binds K fd ps ds ∧ Vals dvs ds
  kp : PySem.W.keepIn K (.ref f) = true
abbrev CbX (X : Cx) (k : Nat) (f : Addr) (ps : List Str) (dvs : List V) (sp : Sp) : Prop := Cb X.prog X.w X.K X.mg X.base k f ps dvs sp
section
variable {X : Cx} {k : Nat} {f C : Addr} {ps : List Str} {sp : Sp} {dvs : List V} {E : St → XK} {x m : Str} {p pos apos : Pos} {e o : Expr} {es : List Expr} {ta : TE} {t : TA}
abbrev tFun : Sp → List V → (St → XK) → TA → TE := tCallSD
theorem pe_fun (B : CbX X k f ps dvs sp) (hr : Room k X.A) (hm : X.mg x = some (.ref f)) (hx : Out X E) (ha : PA X (e :: es) t) (hg : Gl X x := by rfl)
    (hdb : (x == ("__debug__" : Str)) = false := by decide) (he : starEach (e :: es) X.env = (false, eval e X.env) :: starEach es X.env := by rfl)
    (hpl : (backTo pos (starEach es X.env)).any (·.1) = false := by rfl) : PE X (.Call (.Name x p) (e :: es) [] pos) (tFun sp dvs E t) := by
  obtain ⟨fd, ds, F, hb, hd⟩ := B.ex
  exact pe_callSD F hr hg hm B.kp hb hd hx ha hdb he hpl
/-- o.m(..): ms tells of which classes the receiver may be, and each one's promise -/
def tMth (m : Str) (ms : Addr → Sp → Prop) (E : St → XK) (ta : TE) (t : TA) : TE := fun σ H Q =>
  ta σ H fun x H1 => ∃ a C dx fs sp, x = .ref a ∧ H1 a = some (.ins C dx fs) ∧ ms C sp ∧ fs.lookup m = none ∧ t σ H1 fun vs H2 => sp (x :: vs) H2 Q (E σ)
def one (C0 : Addr) (sp0 : Sp) : Addr → Sp → Prop := fun C sp => C = C0 ∧ sp = sp0
def oneD (C0 : Addr) (sp0 : Sp) (dvs : List V) : Addr → Sp → Prop := fun C sp => C = C0 ∧ sp = fun vs H Q E => sp0 (vs ++ dvs) H Q E
def orM (m1 m2 : Addr → Sp → Prop) : Addr → Sp → Prop := fun C sp => m1 C sp ∨ m2 C sp
/-- what is needed of each class -/
def MthOk (P : Program) (w : World) (K : PySem.W.Frag) (mg : Str → Option Value) (base : Heap) (k : Nat) (m : Str) (ms : Addr → Sp → Prop) : Prop :=
  ∀ C sp, ms C sp → Cls K C ∧ ∃ (f : Addr) (ps : List Str) (dvs : List V) (sp' : Sp), Meth K C m f ∧ Cb P w K mg base k f ps dvs sp' ∧ ∀ vs H Q E, sp vs H Q E → sp' (vs ++ dvs) H Q E
theorem mo_one {P : Program} {w : World} {K : PySem.W.Frag} {mg : Str → Option Value} {base : Heap} (c : Cls K C) (hm : Meth K C m f) {j : Nat} (B : Cb P w K mg base j f ps [] sp) (hj : j ≤ k) : MthOk P w K mg base k m (one C sp) := by
  rintro C' sp' ⟨rfl, rfl⟩
  obtain ⟨⟨fd, ds, F, r⟩, kp⟩ := B
  exact ⟨c, f, ps, [], sp', hm, ⟨⟨fd, ds, F.mono hj, r⟩, kp⟩, fun vs H Q E h => by rw [List.append_nil]; exact h⟩
theorem mo_oneD {P : Program} {w : World} {K : PySem.W.Frag} {mg : Str → Option Value} {base : Heap} (c : Cls K C) (hm : Meth K C m f) {j : Nat} (B : Cb P w K mg base j f ps dvs sp) (hj : j ≤ k) : MthOk P w K mg base k m (oneD C sp dvs) := by
  rintro C' sp' ⟨rfl, rfl⟩
  obtain ⟨⟨fd, ds, F, r⟩, kp⟩ := B
  exact ⟨c, f, ps, dvs, sp, hm, ⟨⟨fd, ds, F.mono hj, r⟩, kp⟩, fun vs H Q E h => h⟩
theorem mo_or {P : Program} {w : World} {K : PySem.W.Frag} {mg : Str → Option Value} {base : Heap} {m1 m2 : Addr → Sp → Prop} (h1 : MthOk P w K mg base k m m1) (h2 : MthOk P w K mg base k m m2) : MthOk P w K mg base k m (orM m1 m2) := fun C sp h => h.elim (h1 C sp) (h2 C sp)
abbrev MForm (m : Str) (o : Expr) (es : List Expr) (apos pos : Pos) (env : Env) (pl : Sem Bool) : Prop :=
  eval (.Call (.Attribute o m apos) es [] pos) env = (do
    let ov ← eval o env
    standAt apos.atName
    let (g, first) ← holding [ov] (getMethod ov m pl)
    callWith pos g first (backTo pos (starEach es env)) (backToKw pos (keywordEach [] env)))
theorem pe_mth {pl : Sem Bool} {ms : Addr → Sp → Prop} (he : PE X o ta) (M : MthOk X.prog X.w X.K X.mg X.base k m ms) (hr : Room k X.A) (hx : Out X E) (ha : PA X (e :: es) t)
    (hst : starEach (e :: es) X.env = (false, eval e X.env) :: starEach es X.env := by rfl) (hpl : (backTo pos (starEach es X.env)).any (·.1) = false := by rfl)
    (ht : MForm m o (e :: es) apos pos X.env pl := by rfl) : PE X (.Call (.Attribute o m apos) (e :: es) [] pos) (tMth m ms E ta t) := by
  refine ⟨fun pins s σ H Q I h => ?_⟩
  refine PySem.W.methodCall_KW (pl := pl) (thn (he.run pins s σ H _ I h) fun u s1 hh => ?_) ht
  obtain ⟨y, H1, I1, ry, a, C, dx, fs, sp, ey, ea, hC, l, q⟩ := hh
  obtain ⟨c, f, ps, dvs, sp', hm, B, imp⟩ := M C sp hC
  obtain ⟨fd, ds, F, hb, hd⟩ := B.ex
  subst ey
  obtain rfl : u = Value.ref a := ry
  refine getmeth_ok I1 ea c hm l ?_
  refine PySem.W.callWith_K (first := [.ref a]) (h₀ := X.base) I.ok.mod.kin hm.kp (thn (ha.run pos pins s1 σ H1 _ I1 q) fun us s2 hh => ?_) hst hpl
  obtain ⟨vs, H2, I2, r, q2⟩ := hh
  exact ⟨I2.kIn, run_fnSD (us := .ref a :: us) (vs := .ref a :: vs) F hr hb hd (hx σ) I2 (.cons rfl r) (imp _ _ _ _ q2)⟩
theorem pe_mth0 {pl : Sem Bool} {ms : Addr → Sp → Prop} (he : PE X o ta) (M : MthOk X.prog X.w X.K X.mg X.base k m ms) (hr : Room k X.A) (hx : Out X E)
    (ht : MForm m o [] apos pos X.env pl := by rfl) : PE X (.Call (.Attribute o m apos) [] [] pos) (tMth m ms E ta tNil) := by
  refine ⟨fun pins s σ H Q I h => ?_⟩
  refine PySem.W.methodCall_KW (pl := pl) (thn (he.run pins s σ H _ I h) fun u s1 hh => ?_) ht
  obtain ⟨y, H1, I1, ry, a, C, dx, fs, sp, ey, ea, hC, l, q⟩ := hh
  obtain ⟨c, f, ps, dvs, sp', hm, B, imp⟩ := M C sp hC
  obtain ⟨fd, ds, F, hb, hd⟩ := B.ex
  subst ey
  obtain rfl : u = Value.ref a := ry
  refine getmeth_ok I1 ea c hm l ?_
  exact PySem.W.callWith_K0 (first := [.ref a]) I1.kIn hm.kp (run_fnSD (us := [.ref a]) (vs := [.ref a]) F hr hb hd (hx σ) I1 (.cons rfl .nil) (imp _ _ _ _ q))
/-- C(..): the new instance x and its dict dx, then __init__ -/
def tNew (C : Addr) (sp : Sp) (dvs : List V) (E : St → XK) (t : TA) : TE := fun σ H Q => t σ H fun vs H1 => ∀ x dx, H1 x = none → H1 dx = none → dx ≠ x →
  sp (.ref x :: (vs ++ dvs)) (upd (upd H1 dx (.own x)) x (.ins C dx [])) (fun v H2 => v = .non ∧ Q (.ref x) H2) (E σ)
theorem run_new {pins : List (Addr × Obj)} {σ : St} {H : Hp} {s : Shared} {Q : VK} {us : List Value} {vs : List V} (M : Mk X.K C f) (B : CbX X k f ps dvs sp) (hr : Room (k + 1) X.A) (hx : Out X E) (I : Inv X pins σ H s) (r : Vals vs us)
    (h : ∀ x dx, H x = none → H dx = none → dx ≠ x → sp (.ref x :: (vs ++ dvs)) (upd (upd H dx (.own x)) x (.ins C dx [])) (fun v H2 => v = .non ∧ Q (.ref x) H2) (E σ)) :
    wpAny (model X.prog X.w) X.A (call (.ref C) us) (EP X pins σ Q) X.xe s := by
  obtain ⟨fd, ds, F, hb, hd⟩ := B.ex
  have n1 := I.hok.fresh (Nat.le_succ s.heap.objs.size)
  have n2 := I.hok.fresh (Nat.le_refl s.heap.objs.size)
  have hq := h (s.heap.objs.size + 1) s.heap.objs.size n1 n2 (Nat.ne_of_lt (Nat.lt_succ_self _))
  have I2 := Inv.made (C := C) I
  have r2 : Vals (V.ref (s.heap.objs.size + 1) :: (vs ++ dvs)) (Value.ref (s.heap.objs.size + 1) :: (us ++ ds)) := .cons rfl (r.append hd)
  have hl : (Value.ref (s.heap.objs.size + 1) :: us ++ ds).length = ps.length := r2.length.symm.trans (F.len _ _ _ _ hq)
  have go := F.run _ X.stack _ _ ⟨Value.ref (s.heap.objs.size + 1) :: us, []⟩ _ _ _ (E σ) (hr.make C us []) (I2.env0.make C us []) (hb _ (Value.ref (s.heap.objs.size + 1) :: us) I2.kIn hl) r2 hq
  refine wpAny_call (make_map (f := f) I.kIn M.makes M.init (beq_iff_eq.mp M.fn) (codeAny_mono go fun res s' hq' => ?_))
  match res, hq' with
  | .error er, hq' => exact hx σ pins _ _ er s' I2 hq'
  | .ok (.ret u), hq' =>
    obtain ⟨rv, H', I3, rel, ev, q3⟩ := I2.after hq'
    subst ev
    exact ⟨rel, ⟨V.ref (s.heap.objs.size + 1), H', I3, rfl, q3⟩⟩
  | .ok .next, hq' => exact False.elim hq'
  | .ok .brk, hq' => exact False.elim hq'
  | .ok .cont, hq' => exact False.elim hq'
theorem pe_new (M : Mk X.K C f) (B : CbX X k f ps dvs sp) (hr : Room (k + 1) X.A) (hm : X.mg x = some (.ref C)) (hx : Out X E) (ha : PA X (e :: es) t) (hg : Gl X x := by rfl)
    (hdb : (x == ("__debug__" : Str)) = false := by decide) (he : starEach (e :: es) X.env = (false, eval e X.env) :: starEach es X.env := by rfl)
    (hpl : (backTo pos (starEach es X.env)).any (·.1) = false := by rfl) : PE X (.Call (.Name x p) (e :: es) [] pos) (tNew C sp dvs E t) := by
  refine ⟨fun pins s σ H Q I h => ?_⟩
  refine wpAny_Call_Name_kw (ld_glob I hg hm ?_ hdb)
  refine PySem.W.callWith_K (h₀ := X.base) I.ok.mod.kin M.kp (thn (ha.run pos pins s σ H _ I h) fun us s1 hh => ?_) he hpl
  obtain ⟨vs, H1, I1, r, q⟩ := hh
  exact ⟨I1.kIn, run_new M B hr hx I1 r q⟩
theorem pe_new0 (M : Mk X.K C f) (B : CbX X k f ps dvs sp) (hr : Room (k + 1) X.A) (hm : X.mg x = some (.ref C)) (hx : Out X E) (hg : Gl X x := by rfl)
    (hdb : (x == ("__debug__" : Str)) = false := by decide) : PE X (.Call (.Name x p) [] [] pos) (tNew C sp dvs E tNil) := by
  refine ⟨fun pins s σ H Q I h => ?_⟩
  refine wpAny_Call_Name_kw (ld_glob I hg hm ?_ hdb)
  exact PySem.W.callWith_K0 I.kIn M.kp (run_new (us := []) M B hr hx I .nil h)
end
/-- an own class of exceptions -/
structure Exn (K : PySem.W.Frag) (mg : Str → Option Value) (x : Str) (C : Addr) : Prop where
  g : mg x = some (.ref C)
  ok : PySem.W.excIn K C He.veBase "ValueError.__new__" = true
  kp : PySem.W.keepIn K (.ref C) = true
  sub : PySem.W.subIn K (.ref C) (.type "BaseException") = some true
  ty : PySem.W.typeIn K (.ref C) = some (.type "type")
section
variable {X : Cx} {C : Addr} {W : WX} {x m : Str} {j : Nat} {p p2 pos pos2 : Pos}
/-- raise C('m') -/
def tRz (W : WX) (C : Addr) : TS := fun _ σ H => W (.ref C) none σ H
theorem ps_rz (N : Exn X.K X.mg x C) (hc : X.calm = true) (tk : Takes X W) (hg : Gl X x := by rfl) (hdb : (x == ("__debug__" : Str)) = false := by decide) :
    PS X (.Raise (some (.Call (.Name x p) [.Constant (.str m) j p2] [] pos)) none pos2) (tRz W C) :=
  ps_raise hc tk (pmk_own PySem.F.excBase_ValueError N.ok N.g N.kp (raises_own N.sub N.ty) hg hdb)
end
/-! ### globals as values -/
section
variable {X : Cx} {x : Str} {pos : Pos}
theorem pe_gint {i : Int} (hm : ∃ t, X.mg x = some (.int i t)) (hg : Gl X x := by rfl) (hd : (x == ("__debug__" : Str)) = false := by decide) : PE X (.Name x pos) (tC (.int i)) := by
  obtain ⟨t, hm⟩ := hm
  exact pe_glob hg hm ⟨t, rfl⟩ hd
theorem pe_gstr {z : Str} (hm : ∃ t, X.mg x = some (.str z t)) (hg : Gl X x := by rfl) (hd : (x == ("__debug__" : Str)) = false := by decide) : PE X (.Name x pos) (tC (.str z)) := by
  obtain ⟨t, hm⟩ := hm
  exact pe_glob hg hm ⟨t, rfl⟩ hd
theorem pe_gref {a : Addr} (hm : X.mg x = some (.ref a)) (hg : Gl X x := by rfl) (hd : (x == ("__debug__" : Str)) = false := by decide) : PE X (.Name x pos) (tC (.ref a)) := pe_glob hg hm rfl hd
theorem pe_gty {n : String} (hm : X.mg x = none) (hv : bootBuiltins x = some (.type n)) (hg : Gl X x := by rfl) (hn : x ≠ "__name__" := by decide) (hd : (x == ("__debug__" : Str)) = false := by decide) : PE X (.Name x pos) (tC (.ty n)) := pe_bltn hg hm hv rfl hn hd
end
/-! ### a def -/
section
variable {P : Program} {w : World} {K : PySem.W.Frag} {mg : Str → Option Value} {base : Heap} {x qual : Str} {st : Stmt} {f : Addr} {N ps : List Str} {k : Nat} {sp : Sp} {dvs : List V}
abbrev DefAt (K : PySem.W.Frag) (x qual : Str) (st : Stmt) (dvs : List V) (f : Addr) : Prop := ∃ fd, FunD K x qual (defArgs st) (defBody st) (defScope st) dvs [] f fd
abbrev cxD (P : Program) (w : World) (K : PySem.W.Frag) (mg : Str → Option Value) (base : Heap) (N : List Str) (qual : Str) (st : Stmt) (f : Addr) (cdv : Value) (A : Around) (outer : List Env) (s : Shared) (H : Hp) (E : XK) : Cx :=
  cxOf (L2.CX P w) P w K mg base N qual (defScope st) f cdv A outer s H E
theorem cxD_takes {cdv : Value} {A : Around} {outer : List Env} {s : Shared} {H : Hp} {E : XK} : Takes (cxD P w K mg base N qual st f cdv A outer s H E) (fun cls d _ H' => E cls d H') := takes_of rfl rfl rfl rfl
theorem cxD_passes {cdv : Value} {A : Around} {outer : List Env} {s : Shared} {H : Hp} {E : XK} : PassesOwn (model P w) (A.deeper (envOfC qual (defScope st) s.heap.objs.size f cdv)) (envOfC qual (defScope st) s.heap.objs.size f cdv) (cxD P w K mg base N qual st f cdv A outer s H E).xe :=
  passes_of (X := cxD P w K mg base N qual st f cdv A outer s H E) rfl
/-- a def without defaults, by its body's reading T -/
theorem cb_of {T : XK → TS} (F : DefAt K x qual st [] f) (S : FnScope N ps (defScope st)) (len : ∀ vs H Q E, sp vs H Q E → vs.length = ps.length)
    (hb : ∀ (kV doc pm : Value) (an : Option Addr) (cdv ct : Value) (us : List Value), us.length = ps.length → bindArgs (PySem.W.fnOf x qual (defArgs st) (defBody st) (defScope st) .none kV doc pm an cdv ct) ⟨us, []⟩ = pure (ps.zip us))
    (body : ∀ (cdv : Value) (A : Around) (outer : List Env) (s : Shared) (H : Hp) (E : XK), Room k (A.deeper (envOfC qual (defScope st) s.heap.objs.size f cdv)) → PSs (cxD P w K mg base N qual st f cdv A outer s H E) (defBody st) (T E))
    (read : ∀ vs H Q E, sp vs H Q E → T E { nx := fun _ H' => Q .non H', rt := Q } (start N vs) H) : Cb P w K mg base (k + 1) f ps [] sp := by
  obtain ⟨fd, F⟩ := F
  exact ⟨⟨fd, [], F.ok S len fun cdv A outer s H vs Q E hr h => ⟨T E, body cdv A outer s H E hr, read vs H Q E h⟩, F.bindsN hb, .nil⟩, F.kp⟩
theorem Cb.mono {j : Nat} (B : Cb P w K mg base j f ps dvs sp) (h : j ≤ k) : Cb P w K mg base k f ps dvs sp := by
  obtain ⟨⟨fd, ds, F, r⟩, kp⟩ := B
  exact ⟨⟨fd, ds, F.mono h, r⟩, kp⟩
theorem Cb.imp {sp' : Sp} (B : Cb P w K mg base k f ps dvs sp) (h : ∀ vs H Q E, sp' vs H Q E → sp vs H Q E) : Cb P w K mg base k f ps dvs sp' := by
  obtain ⟨⟨fd, ds, F, r⟩, kp⟩ := B
  exact ⟨⟨fd, ds, F.imp h, r⟩, kp⟩
end
/-! Fo, steps: one for each form of a reading; what is left is what the form asks. -/
/-! ### lists of slots -/
inductive SetR : St → Nat → Option V → St → Prop
  | zero {a x : Option V} {l : St} : SetR (a :: l) 0 x (x :: l)
  | succ {a x : Option V} {l l' : St} {i : Nat} : SetR l i x l' → SetR (a :: l) (i + 1) x (a :: l')
theorem SetR.eq {σ σ' : St} {i : Nat} {x : Option V} (h : SetR σ i x σ') : σ.set i x = σ' := by
  induction h with
  | zero => rfl
  | succ _ ih => rw [List.set_cons_succ, ih]
/-- n at the slots with v put in place i -/
def asgn (i : Nat) (n : St → Hp → Prop) (v : V) (σ : St) (H : Hp) : Prop := n (σ.set i (some v)) H
def lstK (vs : List V) (H : Hp) (Q : VK) : Prop := vs.length ≤ sizeLine ∧ ∀ p, H p = none → Q (.ref p) (upd H p (.lst vs))
def tupK (vs : List V) (H : Hp) (Q : VK) : Prop := vs.length ≤ sizeLine ∧ ∀ p, H p = none → Q (.ref p) (upd H p (.tup vs))
def fldK (K : PySem.W.Frag) (f : Str) (x : V) (H : Hp) (Q : VK) : Prop := ∃ a C dx fs v, x = .ref a ∧ H a = some (.ins C dx fs) ∧ Cls K C ∧ NoAttr K C f ∧ fs.lookup f = some v ∧ Q v H
def stoK (K : PySem.W.Frag) (f : Str) (y x : V) (H : Hp) (n : Hp → Prop) : Prop := ∃ a C dx fs, x = .ref a ∧ H a = some (.ins C dx fs) ∧ Cls K C ∧ NoAttr K C f ∧ fs.length < 1000 ∧ n (upd H a (.ins C dx (putF f y fs)))
section
variable {K : PySem.W.Frag} {σ σ' : St} {H H' : Hp} {Q : VK} {R : Bool → Hp → Prop} {S : List V → Hp → Prop} {te ta tb tc : TE} {t u : TS} {tt tu : TT} {tl : TA} {x y v : V} {i j : Int} {k b : Bool} {r r' : R2} {z z' : Str}
variable {n : St → Hp → Prop} {rt : VK} {bk ct : St → Hp → Prop} {m : Nat} {p q : Addr} {xs ys vs : List V}
/-! ### expressions -/
theorem g_var (h : σ[m]? = some (some v)) (q : Q v H) : tVar m σ H Q := ⟨v, h, q⟩
theorem g_c (q : Q v H) : tC v σ H Q := q
theorem g_op (q : ta σ H fun x H1 => tb σ H1 fun y H2 => r x y H2 Q) : tOp r ta tb σ H Q := q
theorem g_un {r : V → Hp → VK → Prop} (q : ta σ H fun x H1 => r x H1 Q) : tUn r ta σ H Q := q
theorem g_cb {r : List V → Hp → VK → Prop} (q : tl σ H fun vs H1 => r vs H1 Q) : tCB r tl σ H Q := q
theorem g_nil (q : S [] H) : tNil σ H S := q
theorem g_cons {tr : TA} (q : te σ H fun x H1 => tr σ H1 fun xs H2 => S (x :: xs) H2) : tCons te tr σ H S := q
theorem g_bm {T : String} {r : V → List V → Hp → VK → Prop} (q : te σ H fun x H1 => tyV K T x H1 ∧ tl σ H1 fun xs H2 => r x xs H2 Q) : tBM K T r te tl σ H Q := q
theorem g_bm0 {T : String} {r : V → List V → Hp → VK → Prop} (q : te σ H fun x H1 => tyV K T x H1 ∧ r x [] H1 Q) : tBM0 K T r te σ H Q := q
theorem g_lst (q : tl σ H fun vs H1 => lstK vs H1 Q) : tLst tl σ H Q := q
theorem g_tup (q : tl σ H fun vs H1 => tupK vs H1 Q) : tTup tl σ H Q := q
theorem g_fld {f : Str} (q : te σ H fun x H1 => fldK K f x H1 Q) : tFld K te f σ H Q := q
theorem g_fun {sp : Sp} {dvs : List V} {E : St → XK} (q : tl σ H fun vs H1 => sp (vs ++ dvs) H1 Q (E σ)) : tFun sp dvs E tl σ H Q := q
theorem g_new {C : Addr} {sp : Sp} {dvs : List V} {E : St → XK} (q : tl σ H fun vs H1 => ∀ x dx, H1 x = none → H1 dx = none → dx ≠ x → sp (.ref x :: (vs ++ dvs)) (upd (upd H1 dx (.own x)) x (.ins C dx [])) (fun v H2 => v = .non ∧ Q (.ref x) H2) (E σ)) :
    tNew C sp dvs E tl σ H Q := q
theorem g_mth {f : Str} {ms : Addr → Sp → Prop} {E : St → XK} (q : te σ H fun x H1 => ∃ a C dx fs sp, x = .ref a ∧ H1 a = some (.ins C dx fs) ∧ ms C sp ∧ fs.lookup f = none ∧ tl σ H1 fun vs H2 => sp (x :: vs) H2 Q (E σ)) : tMth f ms E te tl σ H Q := q
theorem g_andV (q : ta σ H fun x H1 => ∃ c, x = .bl c ∧ if c = true then tb σ H1 Q else Q (.bl false) H1) : tAndV ta tb σ H Q := q
theorem g_orV (q : ta σ H fun x H1 => ∃ c, x = .bl c ∧ if c = true then Q (.bl true) H1 else tb σ H1 Q) : tOrV ta tb σ H Q := q
theorem g_notV (q : te σ H fun x H1 => ∃ c, x = .bl c ∧ Q (.bl (!c)) H1) : tNotV te σ H Q := q
theorem g_chain (q : ta σ H fun x H1 => tb σ H1 fun y H2 => r x y H2 fun z H3 => ∃ k, z = .bl k ∧ if k = true then tc σ H3 fun w H4 => r' y w H4 Q else Q (.bl false) H3) : tChain r r' ta tb tc σ H Q := q
theorem g_sl {rr : V → Option Int → Option Int → Hp → VK → Prop} {to1 to2 : TO} (q : te σ H fun x H1 => to1 σ H1 fun a H2 => to2 σ H2 fun b H3 => rr x a b H3 Q) : tSl rr te to1 to2 σ H Q := q
theorem g_part {S : Option Int → Hp → Prop} (q : te σ H fun x H1 => ∃ i, x = .int i ∧ S (some i) H1) : tPart te σ H S := q
theorem g_nopart {S : Option Int → Hp → Prop} (q : S none H) : tNoPart σ H S := q
theorem g_bits (q : te σ H fun x H1 => ∃ i, x = .int i ∧ Q (.int (Builtin.Int.intBits i : Nat)) H1) : tBits te σ H Q := q
theorem g_dget (q : ta σ H fun x H1 => tb σ H1 fun y H2 => ∃ a v, x = .ref a ∧ DGet H2 a y (some v) ∧ Q v H2) : tDGet ta tb σ H Q := q
theorem g_din (q : ta σ H fun y H1 => tb σ H1 fun x H2 => ∃ a o, x = .ref a ∧ DGet H2 a y o ∧ Q (.bl o.isSome) H2) : tDIn ta tb σ H Q := q
theorem g_dnotin (q : ta σ H fun y H1 => tb σ H1 fun x H2 => ∃ a o, x = .ref a ∧ DGet H2 a y o ∧ Q (.bl (!o.isSome)) H2) : tDNotIn ta tb σ H Q := q
/-! ### values that are known -/
theorem g_int (q : ∀ w, w = i → ∃ j, V.int w = .int j ∧ Q (.int j) H) : ∃ j, V.int i = .int j ∧ Q (.int j) H := q i rfl
theorem g_eint {T : Int → Prop} (q : T i) : ∃ j, V.int i = .int j ∧ T j := ⟨i, rfl, q⟩
theorem g_ebl {T : Bool → Prop} (q : T b) : ∃ j, V.bl b = .bl j ∧ T j := ⟨b, rfl, q⟩
theorem g_plus (q : Q (.int (i + j)) H) : rPlus K (.int i) (.int j) H Q := .inl ⟨i, j, rfl, rfl, q⟩
theorem g_cat (hx : H p = some (.lst xs)) (hy : H m = some (.lst ys)) (hl : xs.length + ys.length ≤ sizeLine) (q : ∀ l, H l = none → Q (.ref l) (upd H l (.lst (xs ++ ys)))) : rPlus K (.ref p) (.ref m) H Q := .inr (.inl ⟨p, m, xs, ys, rfl, rfl, hx, hy, hl, q⟩)
theorem g_plusS (hl : z.length + z'.length ≤ sizeLine) (q : Q (.str (z ++ z')) H) : rPlus K (.str z) (.str z') H Q := .inr (.inr (.inl ⟨z, z', rfl, rfl, hl, q⟩))
theorem g_minus (q : Q (.int (i - j)) H) : rMinus (.int i) (.int j) H Q := ⟨i, j, rfl, rfl, q⟩
theorem g_times (h : IntMulOk i j) (q : Q (.int (i * j)) H) : rTimes (.int i) (.int j) H Q := .inl ⟨i, j, rfl, rfl, h, q⟩
theorem g_rep (hx : H p = some (.lst xs)) (h1 : -(2 ^ 63) ≤ i) (h2 : i < 2 ^ 63) (hl : xs.length * i.toNat ≤ sizeLine) (q : ∀ l, H l = none → Q (.ref l) (upd H l (.lst (List.replicate i.toNat xs).flatten))) : rTimes (.ref p) (.int i) H Q :=
  .inr ⟨p, i, xs, rfl, rfl, hx, h1, h2, hl, q⟩
theorem g_floor (h : CDivW i j) (q : Q (.int (i / j)) H) : rFloor (.int i) (.int j) H Q := ⟨i, j, rfl, rfl, h, q⟩
theorem g_rest (h : 0 < j) (q : Q (.int (i % j)) H) : rRest (.int i) (.int j) H Q := ⟨i, j, rfl, rfl, h, q⟩
theorem g_pow (h : CPow i j) (q : Q (.int (i ^ j.toNat)) H) : L2.rI CPow (fun i j => .int (i ^ j.toNat)) (.int i) (.int j) H Q := ⟨i, j, rfl, rfl, h, q⟩
theorem g_lsh (h : CShl i j) (q : Q (.int (i * 2 ^ j.toNat)) H) : rLsh (.int i) (.int j) H Q := ⟨i, j, rfl, rfl, h, q⟩
theorem g_rsh (h : 0 ≤ j) (q : Q (.int (i / 2 ^ j.toNat)) H) : rRsh (.int i) (.int j) H Q := ⟨i, j, rfl, rfl, h, q⟩
theorem g_neg (q : Q (.int (-i)) H) : rNeg (.int i) H Q := ⟨i, rfl, q⟩
theorem g_lt (q : Q (.bl (decide (i < j))) H) : iLt (.int i) (.int j) H Q := ⟨i, j, rfl, rfl, q⟩
theorem g_le (q : Q (.bl (decide (i ≤ j))) H) : rLe (.int i) (.int j) H Q := .inl ⟨i, j, rfl, rfl, q⟩
theorem g_leS (q : Q (.bl (!decide (z'.cps.toList < z.cps.toList))) H) : rLe (.str z) (.str z') H Q := .inr ⟨z, z', rfl, rfl, q⟩
theorem g_gt (q : Q (.bl (decide (j < i))) H) : iGt (.int i) (.int j) H Q := ⟨i, j, rfl, rfl, q⟩
theorem g_ge (q : Q (.bl (decide (j ≤ i))) H) : iGe (.int i) (.int j) H Q := ⟨i, j, rfl, rfl, q⟩
theorem dec_int (i j : Int) : decide (V.int i = V.int j) = decide (i = j) := by
  by_cases h : i = j
  · rw [decide_eq_true h, decide_eq_true (by rw [h])]
  · rw [decide_eq_false h, decide_eq_false (fun e => h (V.int.inj e))]
theorem dec_str (i j : Str) : decide (V.str i = V.str j) = decide (i = j) := by
  by_cases h : i = j
  · rw [decide_eq_true h, decide_eq_true (by rw [h])]
  · rw [decide_eq_false h, decide_eq_false (fun e => h (V.str.inj e))]
theorem g_same (q : Q (.bl (decide (i = j))) H) : rSame K (.int i) (.int j) H Q := .inl ⟨rfl, by rw [dec_int]; exact q⟩
theorem g_diff (q : Q (.bl (!decide (i = j))) H) : rDiff K (.int i) (.int j) H Q := .inl ⟨rfl, by rw [dec_int]; exact q⟩
theorem g_sameS (q : Q (.bl (decide (z = z'))) H) : rSame K (.str z) (.str z') H Q := .inl ⟨rfl, by rw [dec_str]; exact q⟩
theorem g_diffS (q : Q (.bl (!decide (z = z'))) H) : rDiff K (.str z) (.str z') H Q := .inl ⟨rfl, by rw [dec_str]; exact q⟩
theorem g_isno (q : Q (.bl (decide (x = .non))) H) : rIsNo x .non H Q := ⟨rfl, q⟩
theorem g_notno (q : Q (.bl (!decide (x = .non))) H) : rNotNo x .non H Q := ⟨rfl, q⟩
theorem g_lenL (h : SqL K H p xs) (q : Q (.int (xs.length : Int)) H) : rLength K [.ref p] H Q := ⟨.ref p, xs.length, rfl, .inl ⟨xs, h, rfl⟩, q⟩
theorem g_lenT (h : SqT K H p xs) (q : Q (.int (xs.length : Int)) H) : rLength K [.ref p] H Q := ⟨.ref p, xs.length, rfl, .inr ⟨xs, h, rfl⟩, q⟩
theorem g_lenS (h : z.length ≤ sizeLine) (q : Q (.int (z.length : Int)) H) : rLength K [.str z] H Q := ⟨.str z, z.length, rfl, ⟨h, rfl⟩, q⟩
theorem g_listL (h : SqL K H p xs) (q : ∀ l, H l = none → Q (.ref l) (upd H l (.lst xs))) : rListOf K [.ref p] H Q := ⟨p, xs, rfl, .inl h, q⟩
theorem g_listT (h : SqT K H p xs) (q : ∀ l, H l = none → Q (.ref l) (upd H l (.lst xs))) : rListOf K [.ref p] H Q := ⟨p, xs, rfl, .inr h, q⟩
theorem g_tupleL (h : SqL K H p xs) (q : ∀ l, H l = none → Q (.ref l) (upd H l (.tup xs))) : rTupleOf K [.ref p] H Q := ⟨p, xs, rfl, .inl ⟨h, q⟩⟩
theorem g_max2 (q : Q (.int (if j > i then j else i)) H) : rGreatest K [.int i, .int j] H Q := .inl ⟨i, j, rfl, q⟩
theorem g_min2 (q : Q (.int (if j < i then j else i)) H) : rLeast K [.int i, .int j] H Q := .inl ⟨i, j, rfl, q⟩
theorem g_intI (q : Q (.int i) H) : rInt1 [.int i] H Q := .inl ⟨i, rfl, q⟩
theorem g_intB (q : Q (.int (if b then 1 else 0)) H) : rInt1 [.bl b] H Q := .inr ⟨b, rfl, q⟩
theorem g_all {bs : List Bool} (h : SqL K H p (bs.map V.bl)) (q : Q (.bl (bs.all id)) H) : rAll K [.ref p] H Q := ⟨p, bs, rfl, h, q⟩
theorem g_any {bs : List Bool} (h : SqL K H p (bs.map V.bl)) (q : Q (.bl (bs.any id)) H) : rAny K [.ref p] H Q := ⟨p, bs, rfl, h, q⟩
theorem g_sum {ns : List Int} (h : SqL K H p (ns.map V.int)) (q : Q (.int ns.sum) H) : rSum K [.ref p] H Q := ⟨p, ns, rfl, h, q⟩
theorem g_ixL (h : SqL K H p xs) (ha : atI xs i = some v) (q : Q v H) : rIx K (.ref p) (.int i) H Q := .inl ⟨p, xs, i, v, rfl, rfl, h, ha, q⟩
theorem g_ixT (h : SqT K H p xs) (ha : atI xs i = some v) (q : Q v H) : rIx K (.ref p) (.int i) H Q := .inr (.inl ⟨p, xs, i, v, rfl, rfl, h, ha, q⟩)
theorem g_ixS {c : Nat} (hl : z.length ≤ sizeLine) (ha : atI z.cps.toList i = some c) (q : Q (.str ⟨#[c]⟩) H) : rIx K (.str z) (.int i) H Q := .inr (.inr ⟨z, i, c, rfl, rfl, hl, ha, q⟩)
theorem g_slL {lo hi : Option Int} (h : SqL K H p xs) (q : ∀ l, H l = none → Q (.ref l) (upd H l (.lst (cutV xs lo hi)))) : rSlL K (.ref p) lo hi H Q := ⟨p, xs, rfl, h, q⟩
theorem g_isi {s : Str} {tn cn : String} (ht : TyX K H x (.type tn)) (hk : kitB tn cn = some b) (q : Q (.bl b) H) : rIsi2 K [x, .ty cn] H Q := .inl ⟨x, .ty cn, .type tn, .type cn, b, rfl, .ty cn, ht, kit_ty hk, q⟩
theorem g_append (h : H p = some (.lst xs)) (hl : xs.length < sizeLine) (q : Q .non (upd H p (.lst (xs ++ [y])))) : rAppend (.ref p) [y] H Q := ⟨p, xs, y, rfl, rfl, h, hl, q⟩
theorem g_reverse (h : H p = some (.lst xs)) (q : Q .non (upd H p (.lst xs.reverse))) : rReverse (.ref p) [] H Q := ⟨p, xs, rfl, rfl, h, q⟩
theorem g_clear (h : H p = some (.lst xs)) (q : Q .non (upd H p (.lst []))) : rClear (.ref p) [] H Q := ⟨p, xs, rfl, rfl, h, q⟩
theorem g_tyL {A : Prop} (h : SqL K H p xs) (q : A) : tyV K "list" (.ref p) H ∧ A := ⟨.inl ⟨rfl, xs, h⟩, q⟩
theorem g_tyS {A : Prop} (q : A) : tyV K "str" (.str z) H ∧ A := ⟨rfl, q⟩
theorem g_lstK (hl : vs.length ≤ sizeLine) (q : ∀ p, H p = none → Q (.ref p) (upd H p (.lst vs))) : lstK vs H Q := ⟨hl, q⟩
theorem g_tupK (hl : vs.length ≤ sizeLine) (q : ∀ p, H p = none → Q (.ref p) (upd H p (.tup vs))) : tupK vs H Q := ⟨hl, q⟩
theorem g_fldK {f : Str} {C dx : Addr} {fs : List (Str × V)} (h : H p = some (.ins C dx fs)) (c : Cls K C) (na : NoAttr K C f) (hl : fs.lookup f = some v) (q : Q v H) : fldK K f (.ref p) H Q := ⟨p, C, dx, fs, v, rfl, h, c, na, hl, q⟩
theorem g_stoK {f : Str} {C dx : Addr} {fs : List (Str × V)} {n : Hp → Prop} (h : H p = some (.ins C dx fs)) (c : Cls K C) (na : NoAttr K C f) (hl : fs.length < 1000) (q : n (upd H p (.ins C dx (putF f y fs)))) : stoK K f y (.ref p) H n := ⟨p, C, dx, fs, rfl, h, c, na, hl, q⟩
/-! ### tests -/
theorem g_test (q : te σ H fun x H1 => ∃ c, x = .bl c ∧ R c H1) : tTest te σ H R := q
theorem g_B (q : te σ H fun x H1 => ∃ c, x = .bl c ∧ R c H1) : tB te σ H R := q
theorem g_tru (q : te σ H fun x H1 => ∃ c, TruV K x H1 c ∧ R c H1) : tTru K te σ H R := q
theorem g_truB {T : Bool → Prop} (q : T b) : ∃ c, TruV K (.bl b) H c ∧ T c := ⟨b, rfl, q⟩
theorem g_and (q : tt σ H fun c H1 => if c = true then tu σ H1 R else R false H1) : tAnd tt tu σ H R := q
theorem g_or (q : tt σ H fun c H1 => if c = true then R true H1 else tu σ H1 R) : tOr tt tu σ H R := q
theorem g_not (q : tt σ H fun c H1 => R (!c) H1) : tNot tt σ H R := q
theorem g_ifT {A B : Prop} (q : A) : if true = true then A else B := iteT q
theorem g_ifF {A B : Prop} (q : B) : if false = true then A else B := iteF q
theorem g_ifNT {A B : Prop} (q : B) : if (!true) = true then A else B := iteF q
theorem g_ifNF {A B : Prop} (q : A) : if (!false) = true then A else B := iteT q
theorem dif {c A B : Prop} [Decidable c] (h1 : c → A) (h2 : ¬ c → B) : if decide c = true then A else B := by
  by_cases h : c
  · rw [decide_eq_true h]; exact iteT (h1 h)
  · rw [decide_eq_false h]; exact iteF (h2 h)
theorem difN {c A B : Prop} [Decidable c] (h1 : ¬ c → A) (h2 : c → B) : if (!decide c) = true then A else B := by
  by_cases h : c
  · rw [decide_eq_true h]; exact iteF (h2 h)
  · rw [decide_eq_false h]; exact iteT (h1 h)
theorem difB {A B : Prop} (h1 : b = true → A) (h2 : b = false → B) : if b = true then A else B := by
  cases b with
  | true => exact iteT (h1 rfl)
  | false => exact iteF (h2 rfl)
theorem difNB {A B : Prop} (h1 : b = false → A) (h2 : b = true → B) : if (!b) = true then A else B := by
  cases b with
  | true => exact iteF (h2 rfl)
  | false => exact iteT (h1 rfl)
theorem difY {c A B : Prop} [Decidable c] (h : c) (q : A) : if decide c = true then A else B := by rw [decide_eq_true h]; exact iteT q
theorem difX {c A B : Prop} [Decidable c] (h : ¬ c) (q : B) : if decide c = true then A else B := by rw [decide_eq_false h]; exact iteF q
/-! ### statements -/
theorem g_seq (q : t ⟨u ⟨n, rt, bk, ct⟩, rt, bk, ct⟩ σ H) : tSeq t u ⟨n, rt, bk, ct⟩ σ H := q
theorem g_next (q : n σ H) : tNext ⟨n, rt, bk, ct⟩ σ H := q
theorem g_drop (q : te σ H fun _ H1 => n σ H1) : tDrop te ⟨n, rt, bk, ct⟩ σ H := q
theorem g_ret (q : te σ H rt) : tRet te ⟨n, rt, bk, ct⟩ σ H := q
theorem g_retN (q : rt .non H) : tRetN ⟨n, rt, bk, ct⟩ σ H := q
theorem g_asg (q : te σ H fun v H1 => asgn m n v σ H1) : tAsg te (gName m) ⟨n, rt, bk, ct⟩ σ H := q
theorem g_asgn (r : SetR σ m (some v) σ') (q : n σ' H) : asgn m n v σ H := by unfold asgn; rw [r.eq]; exact q
theorem g_if (q : tt σ H fun c H1 => if c = true then t ⟨n, rt, bk, ct⟩ σ H1 else u ⟨n, rt, bk, ct⟩ σ H1) : tIfS tt t u ⟨n, rt, bk, ct⟩ σ H := q
theorem g_aug {ti : TIp} (hx : σ[m]? = some (some x)) (q : te σ H fun y H1 => ti x y H1 fun z H2 => asgn m n z σ H2) : tAug m te ti ⟨n, rt, bk, ct⟩ σ H := ⟨x, hx, q⟩
theorem g_ip {f : Int → Int → Int} (q : Q (.int (f i j)) H) : ipI f (.int i) (.int j) H Q := ⟨i, j, rfl, rfl, q⟩
theorem g_sto {f : Str} (q : tb σ H fun y H1 => ta σ H1 fun x H2 => stoK K f y x H2 fun H3 => n σ H3) : sFld K ta tb f ⟨n, rt, bk, ct⟩ σ H := q
theorem g_rz {W : WX} {C : Addr} (q : W (.ref C) none σ H) : tRz W C ⟨n, rt, bk, ct⟩ σ H := q
/-! ### promises by the number of arguments -/
end
def on1 (F : V → Hp → VK → XK → Prop) : Sp := fun vs H Q E => ∃ a, vs = [a] ∧ F a H Q E
def on2 (F : V → V → Hp → VK → XK → Prop) : Sp := fun vs H Q E => ∃ a b, vs = [a, b] ∧ F a b H Q E
def on3 (F : V → V → V → Hp → VK → XK → Prop) : Sp := fun vs H Q E => ∃ a b c, vs = [a, b, c] ∧ F a b c H Q E
def on4 (F : V → V → V → V → Hp → VK → XK → Prop) : Sp := fun vs H Q E => ∃ a b c d, vs = [a, b, c, d] ∧ F a b c d H Q E
def on5 (F : V → V → V → V → V → Hp → VK → XK → Prop) : Sp := fun vs H Q E => ∃ a b c d e, vs = [a, b, c, d, e] ∧ F a b c d e H Q E
section
variable {H : Hp} {Q : VK} {E : XK} {a b c d e : V}
theorem g_on1 {F : V → Hp → VK → XK → Prop} (q : F a H Q E) : on1 F ([a] ++ []) H Q E := ⟨a, rfl, q⟩
theorem g_on2 {F : V → V → Hp → VK → XK → Prop} (q : F a b H Q E) : on2 F ([a, b] ++ []) H Q E := ⟨a, b, rfl, q⟩
theorem g_on3 {F : V → V → V → Hp → VK → XK → Prop} (q : F a b c H Q E) : on3 F ([a, b, c] ++ []) H Q E := ⟨a, b, c, rfl, q⟩
theorem g_on4 {F : V → V → V → V → Hp → VK → XK → Prop} (q : F a b c d H Q E) : on4 F ([a, b, c, d] ++ []) H Q E := ⟨a, b, c, d, rfl, q⟩
end
/-! ### what stands where -/
section
variable {K : PySem.W.Frag} {H H1 : Hp} {a p : Addr} {o u : HO} {xs : List V}
theorem lk_new (h : H a = some o) (hp : H p = none) : upd H p u a = some o := by rw [upd_ne (ne_of_none h hp)]; exact h
theorem lk_mut (hn : a ≠ p) (h : H a = some o) : upd H p u a = some o := by rw [upd_ne hn]; exact h
theorem sq_new (h : SqL K H a xs) (hp : H p = none) : SqL K (upd H p u) a xs := by
  rcases h with (h | ⟨v, h⟩) | h
  · exact .inl (.inl (lk_new h hp))
  · exact .inl (.inr ⟨v, lk_new h hp⟩)
  · exact .inr h
theorem sq_mut (hn : a ≠ p) (h : SqL K H a xs) : SqL K (upd H p u) a xs := by
  rcases h with (h | ⟨v, h⟩) | h
  · exact .inl (.inl (lk_mut hn h))
  · exact .inl (.inr ⟨v, lk_mut hn h⟩)
  · exact .inr h
theorem st_new (h : SqT K H a xs) (hp : H p = none) : SqT K (upd H p u) a xs := by
  rcases h with (h | ⟨v, h⟩) | h
  · exact .inl (.inl (lk_new h hp))
  · exact .inl (.inr ⟨v, lk_new h hp⟩)
  · exact .inr h
theorem st_mut (hn : a ≠ p) (h : SqT K H a xs) : SqT K (upd H p u) a xs := by
  rcases h with (h | ⟨v, h⟩) | h
  · exact .inl (.inl (lk_mut hn h))
  · exact .inl (.inr ⟨v, lk_mut hn h⟩)
  · exact .inr h
theorem sq_of (h : H a = some (.lst xs)) : SqL K H a xs := .inl (.inl h)
theorem stt_of (h : H a = some (.tup xs)) : SqT K H a xs := .inl (.inl h)
theorem Same.tup (e : Same H H1) (h : SqT K H a xs) : SqT K H1 a xs := by
  rcases h with (h | ⟨v, h⟩) | h
  · exact .inl (.inl (e _ _ h))
  · exact .inl (.inr ⟨v, e _ _ h⟩)
  · exact .inr h
theorem same_new (e : Same H H1) (hp : H1 p = none) : Same H (upd H1 p u) := fun b x h => lk_new (e b x h) hp
theorem same_mut (e : Same H H1) (hp : H p = none) : Same H (upd H1 p u) := fun b x h => lk_mut (ne_of_none h hp) (e b x h)
/-- a sequence's place is another than a mutable thing's -/
theorem sq_ne (h : SqL K H a xs) (hK : ∀ o, K.lookup a = some o → H p = none → a ≠ p) (hp : H p = none) : a ≠ p := by
  rcases h with (h | ⟨v, h⟩) | ⟨o, _, _, h, _⟩
  · exact ne_of_none h hp
  · exact ne_of_none h hp
  · exact hK o h hp
end
theorem lk_same {H H1 : Hp} {a : Addr} {o : HO} (e : Same H H1) (h : H a = some o) : H1 a = some o := e a o h
theorem lk_newF {H : Hp} {a p : Addr} {o u : HO} (hp : H p = none) (h : H a = some o) : upd H p u a = some o := lk_new h hp
theorem sq_newF {K : PySem.W.Frag} {H : Hp} {a p : Addr} {u : HO} {xs : List V} (hp : H p = none) (h : SqL K H a xs) : SqL K (upd H p u) a xs := sq_new h hp
theorem st_newF {K : PySem.W.Frag} {H : Hp} {a p : Addr} {u : HO} {xs : List V} (hp : H p = none) (h : SqT K H a xs) : SqT K (upd H p u) a xs := st_new h hp
theorem same_newF {H H1 : Hp} {p : Addr} {u : HO} (hp : H1 p = none) (e : Same H H1) : Same H (upd H1 p u) := same_new e hp
theorem same_mutF {H H1 : Hp} {p : Addr} {u : HO} (hp : H p = none) (e : Same H H1) : Same H (upd H1 p u) := same_mut e hp
theorem same_transF {H H1 H2 : Hp} (f : Same H1 H2) (e : Same H H1) : Same H H2 := Same.trans e f
theorem ne_of_noneF {H : Hp} {a p : Addr} {o : HO} (hp : H p = none) (h : H a = some o) : a ≠ p := ne_of_none h hp
theorem lkF {H H1 : Hp} {a : Addr} {o : HO} (h : H a = some o) (e : Same H H1) : H1 a = some o := e a o h
theorem sqF {K : PySem.W.Frag} {H H1 : Hp} {a : Addr} {xs : List V} (h : SqL K H a xs) (e : Same H H1) : SqL K H1 a xs := e.seq h
theorem sqLF {K : PySem.W.Frag} {H H1 : Hp} {a : Addr} {xs : List V} (h : H a = some (.lst xs)) (e : Same H H1) : SqL K H1 a xs := sq_of (e _ _ h)
theorem tqF {K : PySem.W.Frag} {H H1 : Hp} {a : Addr} {xs : List V} (h : SqT K H a xs) (e : Same H H1) : SqT K H1 a xs := Same.tup e h
theorem tqLF {K : PySem.W.Frag} {H H1 : Hp} {a : Addr} {xs : List V} (h : H a = some (.tup xs)) (e : Same H H1) : SqT K H1 a xs := stt_of (e _ _ h)
/-! Fo, loops and comprehensions over ints and over any values. -/
theorem map_at {α : Type} {f : α → V} {ns : List α} {i : Nat} {x : V} (h : (ns.map f)[i]? = some x) : ∃ z, ns[i]? = some z ∧ x = f z := by
  rw [List.getElem?_map] at h
  cases e : ns[i]? with
  | none => rw [e] at h; cases h
  | some z => rw [e] at h; exact ⟨z, rfl, (Option.some.inj h).symm⟩
/-- the loop over an iteration J, from the slots σ and the heap H -/
def forJ (J : It) (g : TG) (tb : TS) (n : St → Hp → Prop) (rt : VK) (σ : St) (H : Hp) : Prop :=
  ∃ W : Nat → Nat → St → Hp → Prop, (∃ m, W 0 m σ H) ∧ ∀ i m σ H, W i m σ H →
    (J.stop i H ∧ n σ H) ∨ (J.go i H ∧ ∃ N : St → Hp → Prop, (∀ σ' H', N σ' H' → ∃ m', m' < m ∧ W (i + 1) m' σ' H') ∧ ∀ x H', J.yld i H x H' → g x σ H' fun σ2 H2 => tb ⟨N, rt, n, N⟩ σ2 H2)
def forLK (K : PySem.W.Frag) (g : TG) (tb : TS) (n : St → Hp → Prop) (rt : VK) (σ : St) (x : V) (H : Hp) : Prop := ∃ a, x = .ref a ∧ (∃ xs, SqL K H a xs) ∧ forJ (Itl K a) g tb n rt σ H
def forTK (K : PySem.W.Frag) (g : TG) (tb : TS) (n : St → Hp → Prop) (rt : VK) (σ : St) (x : V) (H : Hp) : Prop := ∃ a, x = .ref a ∧ (∃ xs, SqT K H a xs) ∧ forJ (Itt K a) g tb n rt σ H
def forR1K (g : TG) (tb : TS) (n : St → Hp → Prop) (rt : VK) (σ : St) (vs : List V) (H : Hp) : Prop := ∃ j : Int, vs = [.int j] ∧ -(2 ^ 62) ≤ j ∧ j < 2 ^ 62 ∧ forJ (Itr 0 j.toNat) g tb n rt σ H
def forR2K (g : TG) (tb : TS) (n : St → Hp → Prop) (rt : VK) (σ : St) (vs : List V) (H : Hp) : Prop :=
  ∃ i j : Int, vs = [.int i, .int j] ∧ (-(2 ^ 62) ≤ i ∧ i < 2 ^ 62 ∧ -(2 ^ 62) ≤ j ∧ j < 2 ^ 62) ∧ forJ (Itr i (j - i).toNat) g tb n rt σ H
section
variable {K : PySem.W.Frag} {σ σ' : St} {H H' : Hp} {Q : VK} {te te0 : TE} {ta : TA} {tb : TS} {g : TG} {m : Nat} {n : St → Hp → Prop} {rt : VK} {bk ct : St → Hp → Prop} {a : Addr} {xs : List V} {i j : Int}
theorem g_forL (q : te σ H fun x H1 => forLK K g tb n rt σ x H1) : tFor (iList K te) g tb ⟨n, rt, bk, ct⟩ σ H := q
theorem g_forT (q : te σ H fun x H1 => forTK K g tb n rt σ x H1) : tFor (iTup K te) g tb ⟨n, rt, bk, ct⟩ σ H := q
theorem g_forR1 (q : ta σ H fun vs H1 => forR1K g tb n rt σ vs H1) : tFor (iRng1 ta) g tb ⟨n, rt, bk, ct⟩ σ H := q
theorem g_forR2 (q : ta σ H fun vs H1 => forR2K g tb n rt σ vs H1) : tFor (iRng2 ta) g tb ⟨n, rt, bk, ct⟩ σ H := q
theorem for_L (hs : SqL K H a xs) (Pv : Nat → St → Hp → Prop) (h0 : Pv 0 σ H) (hl : ∀ i σ H, Pv i σ H → SqL K H a xs)
    (ht : ∀ i x σ H, xs[i]? = some x → Pv i σ H → g x σ H fun σ2 H2 => tb ⟨Pv (i + 1), rt, n, Pv (i + 1)⟩ σ2 H2) (hd : ∀ σ H, Pv xs.length σ H → n σ H) : forLK K g tb n rt σ (.ref a) H :=
  ⟨a, rfl, ⟨xs, hs⟩, for_list (D := ⟨n, rt, fun _ _ => False, fun _ _ => False⟩) Pv h0 (fun i σ H _ p => hl i σ H p) ht hd⟩
theorem for_T (hs : SqT K H a xs) (Pv : Nat → St → Hp → Prop) (h0 : Pv 0 σ H) (hl : ∀ i σ H, Pv i σ H → SqT K H a xs)
    (ht : ∀ i x σ H, xs[i]? = some x → Pv i σ H → g x σ H fun σ2 H2 => tb ⟨Pv (i + 1), rt, n, Pv (i + 1)⟩ σ2 H2) (hd : ∀ σ H, Pv xs.length σ H → n σ H) : forTK K g tb n rt σ (.ref a) H :=
  ⟨a, rfl, ⟨xs, hs⟩, for_tup (D := ⟨n, rt, fun _ _ => False, fun _ _ => False⟩) Pv h0 (fun i σ H _ p => hl i σ H p) ht hd⟩
/-- over ints, to one name -/
theorem for_LI {ns : List Int} (hs : SqL K H a (ns.map V.int)) (Pv : Nat → St → Hp → Prop) (h0 : Pv 0 σ H) (hl : ∀ i σ H, Pv i σ H → SqL K H a (ns.map V.int))
    (ht : ∀ i z σ H, ns[i]? = some z → Pv i σ H → asgn m (fun σ2 H2 => tb ⟨Pv (i + 1), rt, n, Pv (i + 1)⟩ σ2 H2) (.int z) σ H) (hd : ∀ σ H, Pv ns.length σ H → n σ H) : forLK K (gName m) tb n rt σ (.ref a) H := by
  refine for_L hs Pv h0 hl (fun i x σ H hx p => ?_) fun σ H p => hd σ H (by rw [List.length_map] at p; exact p)
  obtain ⟨z, hz, rfl⟩ := map_at hx
  exact ht i z σ H hz p
theorem for_TI {ns : List Int} (hs : SqT K H a (ns.map V.int)) (Pv : Nat → St → Hp → Prop) (h0 : Pv 0 σ H) (hl : ∀ i σ H, Pv i σ H → SqT K H a (ns.map V.int))
    (ht : ∀ i z σ H, ns[i]? = some z → Pv i σ H → asgn m (fun σ2 H2 => tb ⟨Pv (i + 1), rt, n, Pv (i + 1)⟩ σ2 H2) (.int z) σ H) (hd : ∀ σ H, Pv ns.length σ H → n σ H) : forTK K (gName m) tb n rt σ (.ref a) H := by
  refine for_T hs Pv h0 hl (fun i x σ H hx p => ?_) fun σ H p => hd σ H (by rw [List.length_map] at p; exact p)
  obtain ⟨z, hz, rfl⟩ := map_at hx
  exact ht i z σ H hz p
theorem for_R1 {k : Nat} (hk : j = (k : Int)) (hb : k < 2 ^ 62) (Pv : Nat → St → Hp → Prop) (h0 : Pv 0 σ H)
    (ht : ∀ (i : Nat) σ H, i < k → Pv i σ H → asgn m (fun σ2 H2 => tb ⟨Pv (i + 1), rt, n, Pv (i + 1)⟩ σ2 H2) (.int (i : Int)) σ H) (hd : ∀ σ H, Pv k σ H → n σ H) : forR1K (gName m) tb n rt σ [.int j] H := by
  subst hk
  refine ⟨k, rfl, by omega, by omega, for_range (D := ⟨n, rt, fun _ _ => False, fun _ _ => False⟩) Pv h0 (fun i σ H hi p => ?_) fun σ H p => hd σ H (by simpa using p)⟩
  have e : (0 : Int) + (i : Int) = (i : Int) := by omega
  rw [e]
  exact ht i σ H (by simpa using hi) p
theorem for_R2 {k : Nat} (hk : (j - i).toNat = k) (hb : -(2 ^ 62) ≤ i ∧ i < 2 ^ 62 ∧ -(2 ^ 62) ≤ j ∧ j < 2 ^ 62) (Pv : Nat → St → Hp → Prop) (h0 : Pv 0 σ H)
    (ht : ∀ (l : Nat) σ H, l < k → Pv l σ H → asgn m (fun σ2 H2 => tb ⟨Pv (l + 1), rt, n, Pv (l + 1)⟩ σ2 H2) (.int (i + (l : Int))) σ H) (hd : ∀ σ H, Pv k σ H → n σ H) : forR2K (gName m) tb n rt σ [.int i, .int j] H := by
  subst hk
  exact ⟨i, j, rfl, hb, for_range (D := ⟨n, rt, fun _ _ => False, fun _ _ => False⟩) Pv h0 (fun l σ H hi p => ht l σ H hi p) fun σ H p => hd σ H p⟩
/-! ### comprehensions -/
def lcJ (J : It) (g : TG) (tt : TT) (te : TE) (vs : List Nat) (σ : St) (H1 : Hp) (Q : VK) : Prop :=
  ∀ D, H1 D = none → ∃ W : Nat → Nat → Hp → Prop, (∃ m, W 0 m (upd H1 D (.lst []))) ∧ ∀ i m H, W i m H →
  (J.stop i H ∧ Q (.ref D) H) ∨ (J.go i H ∧ ∃ Nx : Hp → Prop, (∀ H', Nx H' → ∃ m', m' < m ∧ W (i + 1) m' H') ∧ ∀ x H', J.yld i H x H' → g x (wipe σ vs) H' fun σ2 H2 => wipe σ2 vs = wipe σ vs ∧ tt σ2 H2 fun b H3 =>
    if b = true then te σ2 H3 fun y H4 => ∃ acc, H4 D = some (.lst acc) ∧ acc.length < sizeLine ∧ Nx (upd H4 D (.lst (acc ++ [y]))) else Nx H3)
def lcLK (K : PySem.W.Frag) (g : TG) (tt : TT) (te : TE) (vs : List Nat) (σ : St) (x : V) (H : Hp) (Q : VK) : Prop := ∃ a, x = .ref a ∧ (∃ xs, SqL K H a xs) ∧ lcJ (Itl K a) g tt te vs σ H Q
def lcTK (K : PySem.W.Frag) (g : TG) (tt : TT) (te : TE) (vs : List Nat) (σ : St) (x : V) (H : Hp) (Q : VK) : Prop := ∃ a, x = .ref a ∧ (∃ xs, SqT K H a xs) ∧ lcJ (Itt K a) g tt te vs σ H Q
def lcR1K (g : TG) (tt : TT) (te : TE) (vs : List Nat) (σ : St) (us : List V) (H : Hp) (Q : VK) : Prop := ∃ j : Int, us = [.int j] ∧ -(2 ^ 62) ≤ j ∧ j < 2 ^ 62 ∧ lcJ (Itr 0 j.toNat) g tt te vs σ H Q
theorem g_lcL {tt : TT} {vs : List Nat} (q : te0 σ H fun x H1 => lcLK K g tt te vs σ x H1 Q) : tLc (iList K te0) g tt te vs σ H Q := q
theorem g_lcT {tt : TT} {vs : List Nat} (q : te0 σ H fun x H1 => lcTK K g tt te vs σ x H1 Q) : tLc (iTup K te0) g tt te vs σ H Q := q
theorem g_lcR1 {tt : TT} {vs : List Nat} (q : ta σ H fun us H1 => lcR1K g tt te vs σ us H1 Q) : tLc (iRng1 ta) g tt te vs σ H Q := q
/-- each item's value y: f x. What the elements lay down besides stands behind -/
def eachK (te : TE) (m : Nat) (σ : St) (H1 : Hp) (D : Addr) (x y : V) : Prop :=
  ∀ H2 Q, Same H1 H2 → (∀ H3, Same H2 H3 → Q y H3) → asgn m (fun σ2 H2 => te σ2 H2 Q) x (σ.set m none) H2
theorem wipe1 (x : Option V) : wipe (((wipe σ [m])).set m x) [m] = wipe σ [m] := by
  show ((((σ.set m none)).set m x).set m none) = σ.set m none
  rw [List.set_set, List.set_set]
theorem lc_each (xs : List V) (f : V → V) (J : It) (hg : ∀ i H, i < xs.length → Same H' H → J.go i H) (hy : ∀ i H x H2, i < xs.length → Same H' H → J.yld i H x H2 → H2 = H ∧ xs[i]? = some x) (hs : ∀ H, Same H' H → J.stop xs.length H) (hl : xs.length ≤ 1000000)
    (he : ∀ x, x ∈ xs → ∀ D, eachK te m σ H' D x (f x)) (hq : ∀ D H3, H' D = none → Same H' H3 → H3 D = some (.lst (xs.map f)) → Q (.ref D) H3) : lcJ J (gName m) tYes te [m] σ H' Q := by
  intro D hD
  refine ⟨fun i k H => k = xs.length - i ∧ i ≤ xs.length ∧ Same H' H ∧ H D = some (.lst ((xs.take i).map f)), ⟨xs.length, rfl, Nat.zero_le _, same_new (Same.refl _) hD, upd_same⟩, ?_⟩
  rintro i k H ⟨rfl, hi, s, e⟩
  by_cases hlt : i < xs.length
  · refine .inr ⟨hg i H hlt s, fun H2 => Same H' H2 ∧ H2 D = some (.lst ((xs.take (i + 1)).map f)), fun H2 p => ⟨xs.length - (i + 1), by omega, rfl, hlt, p⟩, fun x H2 hx => ?_⟩
    obtain ⟨rfl, ex⟩ := hy i H x H2 hlt s hx
    have hm : x ∈ xs := List.mem_of_getElem? ex
    refine ⟨wipe1 _, ?_⟩
    have yes : ∀ {A B : Prop}, A → if true = true then A else B := fun h => iteT h
    refine yes (B := ((fun H2 => Same H' H2 ∧ H2 D = some (HO.lst ((xs.take (i + 1)).map f))) H2)) ?_
    refine he x hm D H2 _ s fun H3 s3 => ⟨(xs.take i).map f, s3 _ _ e, ?_, same_mut (Same.trans s s3) hD, ?_⟩
    · rw [List.length_map, List.length_take]
      exact Nat.lt_of_le_of_lt (Nat.le_trans (Nat.min_le_right _ _) hl) (by decide)
    · rw [upd_same, List.take_add_one, ex, List.map_append]
      rfl
  · have e1 : i = xs.length := by omega
    subst e1
    rw [List.take_length] at e
    exact .inl ⟨hs H s, hq D H hD s e⟩
theorem lc_L (hs : SqL K H a xs) (f : V → V) (hl : xs.length ≤ 1000000) (he : ∀ x, x ∈ xs → ∀ D, eachK te m σ H D x (f x)) (hq : ∀ D H3, H D = none → Same H H3 → H3 D = some (.lst (xs.map f)) → Q (.ref D) H3) :
    lcLK K (gName m) tYes te [m] σ (.ref a) H Q :=
  ⟨a, rfl, ⟨xs, hs⟩, lc_each xs f (Itl K a) (fun i H hi s => ⟨xs, xs[i], s.seq hs, List.getElem?_eq_getElem hi⟩) (fun i H x H2 _ s y => ⟨y.1, y.2 xs (s.seq hs)⟩) (fun H s => ⟨xs, s.seq hs, Nat.le_refl _⟩) hl he hq⟩
theorem lc_T (hs : SqT K H a xs) (f : V → V) (hl : xs.length ≤ 1000000) (he : ∀ x, x ∈ xs → ∀ D, eachK te m σ H D x (f x)) (hq : ∀ D H3, H D = none → Same H H3 → H3 D = some (.lst (xs.map f)) → Q (.ref D) H3) :
    lcTK K (gName m) tYes te [m] σ (.ref a) H Q :=
  ⟨a, rfl, ⟨xs, hs⟩, lc_each xs f (Itt K a) (fun i H hi s => ⟨xs, xs[i], Fo.Same.tup s hs, List.getElem?_eq_getElem hi⟩) (fun i H x H2 _ s y => ⟨y.1, y.2 xs (Fo.Same.tup s hs)⟩) (fun H s => ⟨xs, Fo.Same.tup s hs, Nat.le_refl _⟩) hl he hq⟩
/-- ints to anything -/
theorem lc_LI {ns : List Int} (hs : SqL K H a (ns.map V.int)) (f : Int → V) (hl : ns.length ≤ 1000000) (he : ∀ z, z ∈ ns → ∀ D, eachK te m σ H D (.int z) (f z)) (hq : ∀ D H3, H D = none → Same H H3 → H3 D = some (.lst (ns.map f)) → Q (.ref D) H3) :
    lcLK K (gName m) tYes te [m] σ (.ref a) H Q := by
  have key : (ns.map V.int).map (fun v => match v with | .int z => f z | _ => .non) = ns.map f := by rw [List.map_map]; rfl
  refine lc_L hs (fun v => match v with | .int z => f z | _ => .non) (by rw [List.length_map]; exact hl) (fun x hx D => ?_) (by rw [key]; exact hq)
  obtain ⟨z, hz, rfl⟩ := List.mem_map.mp hx
  exact he z hz D
theorem lc_TI {ns : List Int} (hs : SqT K H a (ns.map V.int)) (f : Int → V) (hl : ns.length ≤ 1000000) (he : ∀ z, z ∈ ns → ∀ D, eachK te m σ H D (.int z) (f z)) (hq : ∀ D H3, H D = none → Same H H3 → H3 D = some (.lst (ns.map f)) → Q (.ref D) H3) :
    lcTK K (gName m) tYes te [m] σ (.ref a) H Q := by
  have key : (ns.map V.int).map (fun v => match v with | .int z => f z | _ => .non) = ns.map f := by rw [List.map_map]; rfl
  refine lc_T hs (fun v => match v with | .int z => f z | _ => .non) (by rw [List.length_map]; exact hl) (fun x hx D => ?_) (by rw [key]; exact hq)
  obtain ⟨z, hz, rfl⟩ := List.mem_map.mp hx
  exact he z hz D
theorem lc_R1 {k : Nat} (hk : j = (k : Int)) (f : Nat → V) (hl : k ≤ 1000000) (he : ∀ i, i < k → ∀ D, eachK te m σ H D (.int (i : Int)) (f i)) (hq : ∀ D H3, H D = none → Same H H3 → H3 D = some (.lst ((List.range k).map f)) → Q (.ref D) H3) :
    lcR1K (gName m) tYes te [m] σ [.int j] H Q := by
  subst hk
  have key : ((List.range k).map fun (i : Nat) => V.int (i : Int)).map (fun v => match v with | .int z => f z.toNat | _ => .non) = (List.range k).map f := by rw [List.map_map]; rfl
  have len : ((List.range k).map fun (i : Nat) => V.int (i : Int)).length = k := by simp
  refine ⟨k, rfl, by omega, by omega, lc_each ((List.range k).map fun (i : Nat) => V.int (i : Int)) (fun v => match v with | .int z => f z.toNat | _ => .non) (Itr 0 (k : Int).toNat) (fun i H hi s => ?_) (fun i H x H2 hi s y => ?_) (fun H s => ?_) (by rw [len]; exact hl) (fun x hx D => ?_) (by rw [key]; exact hq)⟩
  · rw [len] at hi
    show i < (k : Int).toNat
    simpa using hi
  · obtain ⟨rfl, rfl⟩ := y
    rw [len] at hi
    refine ⟨rfl, ?_⟩
    rw [List.getElem?_map, List.getElem?_range hi]
    show some (V.int (i : Int)) = some (V.int (0 + (i : Int)))
    rw [Int.zero_add]
  · rw [len]
    show (k : Int).toNat ≤ k
    simp
  · obtain ⟨i, hi, rfl⟩ := List.mem_map.mp hx
    exact he i (by simpa using hi) D
end
/-! Fo, data as a whole: == of lists, tuples, texts and ints at any depth below 60, no truths within. -/
mutual
def clean : PyData → Bool
  | .none => true
  | .bool _ => false
  | .int _ => true
  | .str _ => true
  | .list xs => cleanAll xs
  | .tuple xs => cleanAll xs
  | .dict _ => false
def cleanAll : List PyData → Bool
  | [] => true
  | x :: xs => clean x && cleanAll xs
end
mutual
theorem eqv_is : ∀ d e : PyData, clean d = true → clean e = true → (PyData.eqv d e = true ↔ d = e)
  | .none, e, h, h' => by cases e <;> simp [PyData.eqv]
  | .bool b, e, h, h' => by simp [clean] at h
  | .int i, e, h, h' => by cases e <;> simp [PyData.eqv, clean] at h' ⊢
  | .str z, e, h, h' => by cases e <;> simp [PyData.eqv]
  | .list xs, e, h, h' => by
    cases e with
    | list ys =>
      simp only [clean] at h h'
      simp only [PyData.eqv, PyData.list.injEq]
      exact eqvAll_is xs ys h h'
    | _ => simp [PyData.eqv]
  | .tuple xs, e, h, h' => by
    cases e with
    | tuple ys =>
      simp only [clean] at h h'
      simp only [PyData.eqv, PyData.tuple.injEq]
      exact eqvAll_is xs ys h h'
    | _ => simp [PyData.eqv]
  | .dict _, e, h, h' => by simp [clean] at h
theorem eqvAll_is : ∀ xs ys : List PyData, cleanAll xs = true → cleanAll ys = true → (PyData.eqvAll xs ys = true ↔ xs = ys)
  | [], [], _, _ => by simp [PyData.eqvAll]
  | [], _ :: _, _, _ => by simp [PyData.eqvAll]
  | _ :: _, [], _, _ => by simp [PyData.eqvAll]
  | x :: xs, y :: ys, h, h' => by
    simp only [cleanAll, Bool.and_eq_true] at h h'
    simp only [PyData.eqvAll, Bool.and_eq_true, List.cons.injEq]
    rw [eqv_is x y h.1 h'.1, eqvAll_is xs ys h.2 h'.2]
end
/-- data that == compares as they stand -/
structure Okd (n : Nat) (d : PyData) : Prop where
  lay : d.canLay0 = true
  cl : clean d = true
  dp : d.depth ≤ n
theorem okd_non {n : Nat} : Okd n .none := ⟨rfl, by simp [clean], by simp [PyData.depth]⟩
theorem okd_int {n : Nat} {i : Int} : Okd n (.int i) := ⟨rfl, by simp [clean], by simp [PyData.depth]⟩
theorem okd_str {n : Nat} {z : Str} (h : PyData.strOk z = true) : Okd n (.str z) := ⟨by simpa [PyData.canLay0] using h, by simp [clean], by simp [PyData.depth]⟩
theorem okd_all {n : Nat} : ∀ {ds : List PyData}, (∀ d ∈ ds, Okd n d) → PyData.canLayAll0 ds = true ∧ cleanAll ds = true ∧ PyData.depthAll ds ≤ n
  | [], _ => by simp [PyData.canLayAll0, cleanAll, PyData.depthAll]
  | d :: ds, h => by
    obtain ⟨a, b, c⟩ := okd_all (ds := ds) fun e he => h e (List.mem_cons_of_mem _ he)
    have k := h d List.mem_cons_self
    refine ⟨?_, ?_, ?_⟩
    · simp [PyData.canLayAll0, k.lay, a]
    · simp [cleanAll, k.cl, b]
    · simp only [PyData.depthAll]
      have := k.dp
      omega
theorem okd_lst {n : Nat} {ds : List PyData} (h : ∀ d ∈ ds, Okd n d) : Okd (n + 1) (.list ds) := by
  obtain ⟨a, b, c⟩ := okd_all h
  exact ⟨by simpa [PyData.canLay0] using a, by simpa [clean] using b, by simp only [PyData.depth]; omega⟩
theorem okd_tup {n : Nat} {ds : List PyData} (h : ∀ d ∈ ds, Okd n d) : Okd (n + 1) (.tuple ds) := by
  obtain ⟨a, b, c⟩ := okd_all h
  exact ⟨by simpa [PyData.canLay0] using a, by simpa [clean] using b, by simp only [PyData.depth]; omega⟩
theorem okd_ints {n : Nat} {ns : List Int} : ∀ d ∈ ns.map PyData.int, Okd n d := fun d h => by
  obtain ⟨i, _, rfl⟩ := List.mem_map.mp h
  exact okd_int
theorem Okd.shaped {n : Nat} {d : PyData} (h : Okd n d) (hn : n ≤ 64) : SeqAt.shaped d = true := by
  unfold SeqAt.shaped
  rw [h.lay, Bool.true_and]
  exact decide_eq_true (Nat.le_trans h.dp hn)
section
variable {K : PySem.W.Frag} {H : Hp} {Q : VK} {x y : V} {d e : PyData} {n m : Nat} {b : Bool} {p q : Addr}
theorem g_sameD (hx : Dp K H x d) (hy : Dp K H y e) (od : Okd n d) (oe : Okd m e) (hn : n ≤ 64) (hm : m ≤ 64) (hb : b = true ↔ d = e) (k : Q (.bl b) H) : rSame K x y H Q := by
  refine .inr ⟨d, e, hx, hy, od.shaped hn, oe.shaped hm, ?_⟩
  have z : PyData.eqv d e = b := by
    rw [Bool.eq_iff_iff, eqv_is d e od.cl oe.cl, hb]
  rw [z]
  exact k
theorem g_diffD (hx : Dp K H x d) (hy : Dp K H y e) (od : Okd n d) (oe : Okd m e) (hn : n ≤ 64) (hm : m ≤ 64) (hb : b = true ↔ d = e) (k : Q (.bl (!b)) H) : rDiff K x y H Q := by
  refine .inr ⟨d, e, hx, hy, od.shaped hn, oe.shaped hm, ?_⟩
  have z : PyData.eqv d e = b := by
    rw [Bool.eq_iff_iff, eqv_is d e od.cl oe.cl, hb]
  rw [z]
  exact k
theorem dpAll_ints : ∀ {ns : List Int}, DpAll K H (ns.map V.int) (ns.map PyData.int)
  | [] => .nil
  | i :: ns => .cons (.int i) (dpAll_ints (ns := ns))
theorem map_int_inj {ns ms : List Int} : ns.map PyData.int = ms.map PyData.int ↔ ns = ms := by
  constructor
  · intro h
    induction ns generalizing ms with
    | nil => cases ms with
      | nil => rfl
      | cons => cases h
    | cons i ns ih => cases ms with
      | nil => cases h
      | cons j ms =>
        simp only [List.map_cons, List.cons.injEq, PyData.int.injEq] at h
        rw [h.1, ih h.2]
  · intro h; rw [h]
theorem g_sameLI {ns ms : List Int} (hx : SqL K H p (ns.map V.int)) (hy : SqL K H q (ms.map V.int)) (k : Q (.bl (decide (ns = ms))) H) : rSame K (.ref p) (.ref q) H Q :=
  g_sameD (n := 1) (m := 1) (.lst hx dpAll_ints) (.lst hy dpAll_ints) (okd_lst okd_ints) (okd_lst okd_ints) (by decide) (by decide) (by rw [decide_eq_true_iff, PyData.list.injEq, map_int_inj]) k
theorem g_diffLI {ns ms : List Int} (hx : SqL K H p (ns.map V.int)) (hy : SqL K H q (ms.map V.int)) (k : Q (.bl (!decide (ns = ms))) H) : rDiff K (.ref p) (.ref q) H Q :=
  g_diffD (n := 1) (m := 1) (.lst hx dpAll_ints) (.lst hy dpAll_ints) (okd_lst okd_ints) (okd_lst okd_ints) (by decide) (by decide) (by rw [decide_eq_true_iff, PyData.list.injEq, map_int_inj]) k
theorem g_sameTI {ns ms : List Int} (hx : SqT K H p (ns.map V.int)) (hy : SqT K H q (ms.map V.int)) (k : Q (.bl (decide (ns = ms))) H) : rSame K (.ref p) (.ref q) H Q :=
  g_sameD (n := 1) (m := 1) (.tup hx dpAll_ints) (.tup hy dpAll_ints) (okd_tup okd_ints) (okd_tup okd_ints) (by decide) (by decide) (by rw [decide_eq_true_iff, PyData.tuple.injEq, map_int_inj]) k
theorem g_diffTI {ns ms : List Int} (hx : SqT K H p (ns.map V.int)) (hy : SqT K H q (ms.map V.int)) (k : Q (.bl (!decide (ns = ms))) H) : rDiff K (.ref p) (.ref q) H Q :=
  g_diffD (n := 1) (m := 1) (.tup hx dpAll_ints) (.tup hy dpAll_ints) (okd_tup okd_ints) (okd_tup okd_ints) (by decide) (by decide) (by rw [decide_eq_true_iff, PyData.tuple.injEq, map_int_inj]) k
end
/-! ### slices of lists of anything -/
def cutL {α : Type} (xs : List α) (lo hi : Option Int) : List α := (xs.drop (HT.sIx xs.length 0 lo)).take (HT.sIx xs.length xs.length hi - HT.sIx xs.length 0 lo)
theorem cutV_map {α : Type} (f : α → V) (xs : List α) (lo hi : Option Int) : cutV (xs.map f) lo hi = (cutL xs lo hi).map f := by
  unfold cutV cutL
  rw [List.length_map, ← List.map_drop, ← List.map_take]
theorem cutL_len {α : Type} (xs : List α) (lo hi : Option Int) : (cutL xs lo hi).length ≤ xs.length := by
  unfold cutL
  rw [List.length_take, List.length_drop]
  omega
theorem cutL_sub {α : Type} (xs : List α) (lo hi : Option Int) {x : α} (h : x ∈ cutL xs lo hi) : x ∈ xs := List.mem_of_mem_drop (List.mem_of_mem_take h)
theorem cutL_to {α : Type} (xs : List α) (k : Nat) : cutL xs none (some (k : Int)) = xs.take k := by
  unfold cutL
  rw [HT.sIx_none, HT.sIx_nat]
  show List.take (min k xs.length - 0) xs = xs.take k
  rw [Nat.sub_zero, List.take_eq_take_iff]
  omega
theorem cutL_from {α : Type} (xs : List α) (k : Nat) : cutL xs (some (k : Int)) none = xs.drop k := by
  unfold cutL
  rw [HT.sIx_none, HT.sIx_nat]
  by_cases h : k ≤ xs.length
  · rw [Nat.min_eq_left h, List.take_of_length_le]
    rw [List.length_drop]
    omega
  · have e : min k xs.length = xs.length := by omega
    rw [e, List.drop_of_length_le (Nat.le_refl _), List.drop_of_length_le (by omega)]
    simp
theorem cutL_both {α : Type} (xs : List α) (i j : Nat) : cutL xs (some (i : Int)) (some (j : Int)) = (xs.drop i).take (j - i) := by
  unfold cutL
  rw [HT.sIx_nat, HT.sIx_nat]
  by_cases h : i ≤ xs.length
  · rw [Nat.min_eq_left h, List.take_eq_take_iff, List.length_drop]
    omega
  · have e : min i xs.length = xs.length := by omega
    rw [e, List.drop_of_length_le (Nat.le_refl _), List.drop_of_length_le (by omega)]
    simp
theorem cutL_butlast {α : Type} (xs : List α) : cutL xs none (some (-1)) = xs.dropLast := by
  unfold cutL
  rw [HT.sIx_none]
  show List.take (HT.sIx xs.length xs.length (some (-1)) - 0) xs = _
  rw [Nat.sub_zero, List.dropLast_eq_take]
  congr 1
  show (if (-1 : Int) < 0 then ((-1 : Int) + (xs.length : Int)).toNat else min (-1 : Int).toNat xs.length) = xs.length - 1
  rw [if_pos (by decide)]
  omega
theorem g_sameB {K : PySem.W.Frag} {H : Hp} {Q : VK} {p r : Addr} {bs cs : List Bool} {b : Bool} (hx : SqL K H p (bs.map V.bl)) (hy : SqL K H r (cs.map V.bl)) (s1 : SeqAt.shaped (.list (bs.map PyData.bool)) = true) (s2 : SeqAt.shaped (.list (cs.map PyData.bool)) = true)
    (h : PyData.eqv (.list (bs.map PyData.bool)) (.list (cs.map PyData.bool)) = b) (q : Q (.bl b) H) : rSame K (.ref p) (.ref r) H Q := by
  have dp : ∀ bs : List Bool, DpAll K H (bs.map V.bl) (bs.map PyData.bool) := fun bs => by
    induction bs with
    | nil => exact .nil
    | cons b bs ih => exact .cons (.bl b) ih
  exact .inr ⟨_, _, .lst hx (dp bs), .lst hy (dp cs), s1, s2, by rw [h]; exact q⟩
theorem g_diffB {K : PySem.W.Frag} {H : Hp} {Q : VK} {p r : Addr} {bs cs : List Bool} {b : Bool} (hx : SqL K H p (bs.map V.bl)) (hy : SqL K H r (cs.map V.bl)) (s1 : SeqAt.shaped (.list (bs.map PyData.bool)) = true) (s2 : SeqAt.shaped (.list (cs.map PyData.bool)) = true)
    (h : PyData.eqv (.list (bs.map PyData.bool)) (.list (cs.map PyData.bool)) = b) (q : Q (.bl (!b)) H) : rDiff K (.ref p) (.ref r) H Q := by
  have dp : ∀ bs : List Bool, DpAll K H (bs.map V.bl) (bs.map PyData.bool) := fun bs => by
    induction bs with
    | nil => exact .nil
    | cons b bs ih => exact .cons (.bl b) ih
  exact .inr ⟨_, _, .lst hx (dp bs), .lst hy (dp cs), s1, s2, by rw [h]; exact q⟩
/-! Fo, objects: fields of own classes, calls of methods, what stays when some things change. -/
class HasCls (K : PySem.W.Frag) (C : Str) : Prop where h : Cls K (He.ga K C)
class HasNo (K : PySem.W.Frag) (C f : Str) : Prop where h : NoAttr K (He.ga K C) f
/-- all but what M names stays; nothing goes -/
structure SameX (M : Addr → Prop) (H H1 : Hp) : Prop where
  kp : ∀ b o, ¬ M b → H b = some o → H1 b = some o
  dm : ∀ b, H1 b = none → H b = none
theorem upd_none {H : Hp} {a b : Addr} {o : HO} (h : upd H a o b = none) : H b = none := by
  by_cases e : b = a
  · rw [e, upd_same] at h; cases h
  · rw [upd_ne e] at h; exact h
theorem upd_upd {H : Hp} {a : Addr} {o u : HO} : upd (upd H a o) a u = upd H a u := by
  funext b
  by_cases e : b = a
  · rw [e, upd_same, upd_same]
  · rw [upd_ne e, upd_ne e, upd_ne e]
theorem SameX.refl {M : Addr → Prop} (H : Hp) : SameX M H H := ⟨fun _ _ _ h => h, fun _ h => h⟩
theorem SameX.of {M : Addr → Prop} {H H1 : Hp} (s : Same H H1) : SameX M H H1 := ⟨fun b o _ h => s b o h, fun _ h => s.free h⟩
theorem SameX.trans {M : Addr → Prop} {H H1 H2 : Hp} (s : SameX M H H1) (t : SameX M H1 H2) : SameX M H H2 := ⟨fun b o n h => t.kp b o n (s.kp b o n h), fun b h => s.dm b (t.dm b h)⟩
theorem SameX.mono {M N : Addr → Prop} {H H1 : Hp} (s : SameX M H H1) (h : ∀ b, M b → N b) : SameX N H H1 := ⟨fun b o n e => s.kp b o (fun m => n (h b m)) e, s.dm⟩
/-- what M names besides was not there -/
theorem SameX.mono' {M N : Addr → Prop} {H H1 : Hp} (s : SameX M H H1) (h : ∀ b, M b → H b ≠ none → N b) : SameX N H H1 := ⟨fun b o n e => s.kp b o (fun m => n (h b m (by rw [e]; exact fun z => nomatch z))) e, s.dm⟩
theorem SameX.mut {M : Addr → Prop} {H H1 : Hp} {a : Addr} {o : HO} (s : SameX M H H1) (h : M a) : SameX M H (upd H1 a o) :=
  ⟨fun b u n e => by rw [upd_ne (fun z : b = a => n (by rw [z]; exact h))]; exact s.kp b u n e, fun b e => s.dm b (upd_none e)⟩
theorem SameX.new {M : Addr → Prop} {H H1 : Hp} {a : Addr} {o : HO} (s : SameX M H H1) (h : H1 a = none) : SameX M H (upd H1 a o) :=
  ⟨fun b u n e => lk_new (s.kp b u n e) h, fun b e => s.dm b (upd_none e)⟩
theorem SameX.newmut {M : Addr → Prop} {H H1 : Hp} {a : Addr} {o : HO} (s : SameX M H H1) (h : H a = none) : SameX M H (upd H1 a o) :=
  ⟨fun b u n e => lk_mut (ne_of_none e h) (s.kp b u n e), fun b e => s.dm b (upd_none e)⟩
theorem SameX.same {H H1 : Hp} (s : SameX (fun _ => False) H H1) : Same H H1 := fun b o h => s.kp b o (fun z => z) h
theorem SameX.lk {M : Addr → Prop} {H H1 : Hp} {a : Addr} {o : HO} (s : SameX M H H1) (n : ¬ M a) (h : H a = some o) : H1 a = some o := s.kp a o n h
theorem SameX.seq {K : PySem.W.Frag} {M : Addr → Prop} {H H1 : Hp} {a : Addr} {xs : List V} (s : SameX M H H1) (n : ¬ M a) (h : SqL K H a xs) : SqL K H1 a xs := by
  rcases h with (h | ⟨v, h⟩) | h
  · exact .inl (.inl (s.kp _ _ n h))
  · exact .inl (.inr ⟨v, s.kp _ _ n h⟩)
  · exact .inr h
theorem SameX.tup {K : PySem.W.Frag} {M : Addr → Prop} {H H1 : Hp} {a : Addr} {xs : List V} (s : SameX M H H1) (n : ¬ M a) (h : SqT K H a xs) : SqT K H1 a xs := by
  rcases h with (h | ⟨v, h⟩) | h
  · exact .inl (.inl (s.kp _ _ n h))
  · exact .inl (.inr ⟨v, s.kp _ _ n h⟩)
  · exact .inr h
/-- what is changed was not there at first -/
theorem SameX.back {M : Addr → Prop} {H H1 H2 : Hp} (s0 : Same H H1) (s : SameX M H1 H2) (h : ∀ b, M b → H b = none) : Same H H2 := fun b o e => s.kp b o (fun m => by rw [h b m] at e; cases e) (s0 b o e)
theorem SameX.back1 {a : Addr} {H H1 H2 : Hp} (s0 : Same H H1) (s : SameX (· = a) H1 H2) (h : H a = none) : Same H H2 := s.back s0 fun b m => by rw [m]; exact h
/-- another kind of thing stands there -/
theorem ne_kind {H : Hp} {a b : Addr} {o u : HO} (h : H a = some o) (k : H b = some u) (d : o ≠ u) : a ≠ b := fun e => d (Option.some.inj (by rw [← h, ← k, e]))
/-! ### fields -/
theorem putF_nil {f : Str} {v : V} : putF f v [] = [(f, v)] := rfl
theorem putF_hit {f : Str} {v u : V} {r : List (Str × V)} : putF f v ((f, u) :: r) = (f, v) :: r := by simp [putF]
theorem putF_far {f g : Str} {v u : V} {r r' : List (Str × V)} (h : g ≠ f) (k : putF f v r = r') : putF f v ((g, u) :: r) = (g, u) :: r' := by
  subst k
  show (if g = f then _ else _) = _
  rw [if_neg h]
def mthK (m : Str) (ms : Addr → Sp → Prop) (x : V) (H : Hp) (A : Sp → Prop) : Prop := ∃ a C dx fs sp, x = .ref a ∧ H a = some (.ins C dx fs) ∧ ms C sp ∧ fs.lookup m = none ∧ A sp
def augK (K : PySem.W.Frag) (tv : TE) (rd : V → V → Hp → VK → Prop) (f : Str) (x : V) (σ : St) (H : Hp) (n : Hp → Prop) : Prop := ∃ a C dx fs v, x = .ref a ∧ H a = some (.ins C dx fs) ∧ Cls K C ∧ NoAttr K C f ∧ fs.lookup f = some v ∧
  tv σ H fun y H2 => rd v y H2 fun z H3 => ∃ dx' fs', H3 a = some (.ins C dx' fs') ∧ fs'.length < 1000 ∧ n (upd H3 a (.ins C dx' (putF f z fs')))
def putK (f : Str) (C a : Addr) (z : V) (H : Hp) (n : Hp → Prop) : Prop := ∃ dx' fs', H a = some (.ins C dx' fs') ∧ fs'.length < 1000 ∧ n (upd H a (.ins C dx' (putF f z fs')))
/-- a turn of a while loop, its measure m -/
def whK (W : Nat → St → Hp → Prop) (m : Nat) (tb : TS) (n : St → Hp → Prop) (rt : VK) (σ : St) (H : Hp) : Prop := ∃ N : St → Hp → Prop, (∀ σ' H', N σ' H' → ∃ m', m' < m ∧ W m' σ' H') ∧ tb ⟨N, rt, n, N⟩ σ H
section
variable {K : PySem.W.Frag} {σ : St} {H H' : Hp} {Q : VK} {te ta tv : TE} {tl : TA} {x y v : V} {i j : Int} {rd : V → V → Hp → VK → Prop}
variable {n : St → Hp → Prop} {nH : Hp → Prop} {rt : VK} {bk ct : St → Hp → Prop} {p dx C' : Addr} {fs fs' : List (Str × V)} {C f m : Str} {sp : Sp}
theorem g_mthd {ms : Addr → Sp → Prop} {E : St → XK} (q : te σ H fun x H1 => mthK m ms x H1 fun sp => tl σ H1 fun vs H2 => sp (x :: vs) H2 Q (E σ)) : tMth m ms E te tl σ H Q := q
theorem g_one {A : Sp → Prop} (h : H p = some (.ins C' dx fs)) (hl : fs.lookup m = none) (q : A sp) : mthK m (one C' sp) (.ref p) H A := ⟨p, C', dx, fs, sp, rfl, h, ⟨rfl, rfl⟩, hl, q⟩
theorem g_oneD {A : Sp → Prop} {dvs : List V} (h : H p = some (.ins C' dx fs)) (hl : fs.lookup m = none) (q : A (fun vs H Q E => sp (vs ++ dvs) H Q E)) : mthK m (oneD C' sp dvs) (.ref p) H A := ⟨p, C', dx, fs, _, rfl, h, ⟨rfl, rfl⟩, hl, q⟩
theorem g_orA {A : Sp → Prop} {m1 m2 : Addr → Sp → Prop} (q : mthK m m1 x H A) : mthK m (orM m1 m2) x H A := by
  obtain ⟨a, C, dx, fs, sp, e, h, k, l, q⟩ := q
  exact ⟨a, C, dx, fs, sp, e, h, .inl k, l, q⟩
theorem g_orB {A : Sp → Prop} {m1 m2 : Addr → Sp → Prop} (q : mthK m m2 x H A) : mthK m (orM m1 m2) x H A := by
  obtain ⟨a, C, dx, fs, sp, e, h, k, l, q⟩ := q
  exact ⟨a, C, dx, fs, sp, e, h, .inr k, l, q⟩
theorem g_fldA (h : H p = some (.ins (He.ga K C) dx fs)) (hl : fs.lookup f = some v) (c : HasCls K C) (o : HasNo K C f) (q : Q v H) : fldK K f (.ref p) H Q := g_fldK h c.h o.h hl q
theorem g_stoA (h : H p = some (.ins (He.ga K C) dx fs)) (hl : fs.length < 1000) (e : putF f y fs = fs') (c : HasCls K C) (o : HasNo K C f) (q : nH (upd H p (.ins (He.ga K C) dx fs'))) : stoK K f y (.ref p) H nH := by
  subst e
  exact g_stoK h c.h o.h hl q
theorem g_stoU (hl : fs.length < 1000) (e : putF f y fs = fs') (c : HasCls K C) (o : HasNo K C f) (q : nH (upd H p (.ins (He.ga K C) dx fs'))) : stoK K f y (.ref p) (upd H p (.ins (He.ga K C) dx fs)) nH := by
  refine g_stoA (C := C) upd_same hl e c o ?_
  rw [upd_upd]
  exact q
theorem g_fldaug (q : ta σ H fun x H1 => augK K tv rd f x σ H1 fun H2 => n σ H2) : sFldAug K ta tv rd f ⟨n, rt, bk, ct⟩ σ H := q
theorem g_augA (h : H p = some (.ins (He.ga K C) dx fs)) (hl : fs.lookup f = some v) (c : HasCls K C) (o : HasNo K C f) (q : tv σ H fun y H2 => rd v y H2 fun z H3 => putK f (He.ga K C) p z H3 nH) : augK K tv rd f (.ref p) σ H nH :=
  ⟨p, _, dx, fs, v, rfl, h, c.h, o.h, hl, q⟩
theorem g_putA (h : H p = some (.ins C' dx fs)) (hl : fs.length < 1000) (e : putF f y fs = fs') (q : nH (upd H p (.ins C' dx fs'))) : putK f C' p y H nH := by
  subst e
  exact ⟨dx, fs, h, hl, q⟩
theorem g_putU (hl : fs.length < 1000) (e : putF f y fs = fs') (q : nH (upd H p (.ins C' dx fs'))) : putK f C' p y (upd H p (.ins C' dx fs)) nH := by
  refine g_putA upd_same hl e ?_
  rw [upd_upd]
  exact q
theorem g_iadd (q : Q (.int (i + j)) H) : L2.rAdd (.int i) (.int j) H Q := ⟨i, j, rfl, rfl, q⟩
theorem g_isub (q : Q (.int (i - j)) H) : L2.rSub (.int i) (.int j) H Q := ⟨i, j, rfl, rfl, q⟩
theorem g_while {tc : TT} {tb : TS} (W : Nat → St → Hp → Prop) (m : Nat) (w0 : W m σ H) (hs : ∀ m σ H, W m σ H → tc σ H fun b H1 => if b = true then whK W m tb n rt σ H1 else n σ H1) : tWhile tc tb ⟨n, rt, bk, ct⟩ σ H :=
  ⟨W, ⟨m, w0⟩, fun m σ H w => hs m σ H w⟩
theorem g_whK {tb : TS} {W : Nat → St → Hp → Prop} {m : Nat} (q : tb ⟨fun σ' H' => ∃ m', m' < m ∧ W m' σ' H', rt, n, fun σ' H' => ∃ m', m' < m ∧ W m' σ' H'⟩ σ H) : whK W m tb n rt σ H := ⟨_, fun _ _ h => h, q⟩
theorem g_asgT {g : TG} (q : te σ H fun x H1 => g x σ H1 n) : tAsg te g ⟨n, rt, bk, ct⟩ σ H := q
theorem g_gname {k : Nat} (q : asgn k n v σ H) : gName k v σ H n := q
theorem g_gtup {k : Nat} {t : TGs} {xs : List V} (h : SqT K H p xs) (hl : xs.length = k) (q : t xs σ H n) : gTup K k t (.ref p) σ H n := ⟨p, xs, rfl, h, hl, q⟩
theorem g_gcons {a : TG} {t : TGs} {xs : List V} (q : a v σ H fun σ1 H1 => t xs σ1 H1 n) : gCons a t (v :: xs) σ H n := ⟨v, xs, rfl, q⟩
theorem g_gnil (q : n σ H) : gNil [] σ H n := ⟨rfl, q⟩
theorem g_gsub {to ti : TE} {t : TSet} (q : to σ H fun o H1 => ti σ H1 fun i H2 => t o i v H2 fun H3 => n σ H3) : gSub to ti t v σ H n := q
theorem g_powE {e : Int} (h : CPow i j) (he : i ^ j.toNat = e) (q : Q (.int e) H) : L2.rI CPow (fun i j => .int (i ^ j.toNat)) (.int i) (.int j) H Q := ⟨i, j, rfl, rfl, h, by subst he; exact q⟩
theorem g_powE' {e : Int} (h : CPow i j) (he : i ^ j.toNat = e) (q : Q (.int e) H) : rPow (.int i) (.int j) H Q := g_powE h he q
theorem g_lshE {e : Int} (h : CShl i j) (he : (2 : Int) ^ j.toNat = e) (q : Q (.int (i * e)) H) : rLsh (.int i) (.int j) H Q := ⟨i, j, rfl, rfl, h, by subst he; exact q⟩
theorem g_rshE {e : Int} (h : 0 ≤ j) (he : (2 : Int) ^ j.toNat = e) (q : Q (.int (i / e)) H) : rRsh (.int i) (.int j) H Q := ⟨i, j, rfl, rfl, h, by subst he; exact q⟩
theorem g_mul (h : (-(2 ^ 64) < i ∧ i < 2 ^ 64) ∨ (-(2 ^ 64) < j ∧ j < 2 ^ 64)) (q : Q (.int (i * j)) H) : rTimes (.int i) (.int j) H Q := g_times (CMul.ok h) q
theorem g_p15 (q : Q (.int 1000000000000000) H) : rPow (.int 10) (.int 15) H Q := g_powE' ⟨by decide, by decide, by decide⟩ (by decide) q
theorem g_p60 (q : Q (.int (10 ^ 60)) H) : rPow (.int 10) (.int 60) H Q := g_powE' ⟨by decide, by decide, by decide⟩ (by decide) q
theorem g_m1 {F : V → Hp → VK → XK → Prop} {a : V} {E : XK} (q : F a H Q E) : on1 F [a] H Q E := ⟨a, rfl, q⟩
theorem g_k1 {F : V → Hp → VK → XK → Prop} {a : V} {E : XK} (q : F a H Q E) : on1 F (a :: ([] ++ [])) H Q E := ⟨a, rfl, q⟩
theorem g_m2 {F : V → V → Hp → VK → XK → Prop} {a b : V} {E : XK} (q : F a b H Q E) : on2 F [a, b] H Q E := ⟨a, b, rfl, q⟩
theorem g_k2 {F : V → V → Hp → VK → XK → Prop} {a b : V} {E : XK} (q : F a b H Q E) : on2 F (a :: ([b] ++ [])) H Q E := ⟨a, b, rfl, q⟩
theorem g_m3 {F : V → V → V → Hp → VK → XK → Prop} {a b c : V} {E : XK} (q : F a b c H Q E) : on3 F [a, b, c] H Q E := ⟨a, b, c, rfl, q⟩
theorem g_k3 {F : V → V → V → Hp → VK → XK → Prop} {a b c : V} {E : XK} (q : F a b c H Q E) : on3 F (a :: ([b, c] ++ [])) H Q E := ⟨a, b, c, rfl, q⟩
theorem g_m4 {F : V → V → V → V → Hp → VK → XK → Prop} {a b c d : V} {E : XK} (q : F a b c d H Q E) : on4 F [a, b, c, d] H Q E := ⟨a, b, c, d, rfl, q⟩
theorem g_k4 {F : V → V → V → V → Hp → VK → XK → Prop} {a b c d : V} {E : XK} (q : F a b c d H Q E) : on4 F (a :: ([b, c, d] ++ [])) H Q E := ⟨a, b, c, d, rfl, q⟩
theorem g_m5 {F : V → V → V → V → V → Hp → VK → XK → Prop} {a b c d e : V} {E : XK} (q : F a b c d e H Q E) : on5 F [a, b, c, d, e] H Q E := ⟨a, b, c, d, e, rfl, q⟩
theorem g_k5 {F : V → V → V → V → V → Hp → VK → XK → Prop} {a b c d e : V} {E : XK} (q : F a b c d e H Q E) : on5 F (a :: ([b, c, d, e] ++ [])) H Q E := ⟨a, b, c, d, e, rfl, q⟩
theorem difNY {c A B : Prop} [Decidable c] (h : c) (q : B) : if (!decide c) = true then A else B := by rw [decide_eq_true h]; exact iteF q
theorem difNX {c A B : Prop} [Decidable c] (h : ¬ c) (q : A) : if (!decide c) = true then A else B := by rw [decide_eq_false h]; exact iteT q
end
theorem at0 {u : V} {r : List V} : atI (u :: r) 0 = some u := atI_nat (j := 0) rfl
theorem at1 {u v : V} {r : List V} : atI (u :: v :: r) 1 = some v := atI_nat (j := 1) rfl
theorem at2 {u v w : V} {r : List V} : atI (u :: v :: w :: r) 2 = some w := atI_nat (j := 2) rfl
theorem at3 {u v w x : V} {r : List V} : atI (u :: v :: w :: x :: r) 3 = some x := atI_nat (j := 3) rfl
/-! ### enumerate -/
def forEK (K : PySem.W.Frag) (g : TG) (tb : TS) (n : St → Hp → Prop) (rt : VK) (σ : St) (vs : List V) (H : Hp) : Prop := ∃ a xs, vs = [.ref a] ∧ SqL K H a xs ∧ forJ (Ite K a) g tb n rt σ H
section
variable {K : PySem.W.Frag} {σ σ' : St} {H H' : Hp} {ta : TA} {tb : TS} {g : TG} {n : St → Hp → Prop} {rt : VK} {bk ct : St → Hp → Prop} {a : Addr} {xs : List V} {m1 m2 : Nat}
theorem g_forE (q : ta σ H fun vs H1 => forEK K g tb n rt σ vs H1) : tFor (iEnum K ta) g tb ⟨n, rt, bk, ct⟩ σ H := q
theorem for_E (hs : SqL K H a xs) (Pv : Nat → St → Hp → Prop) (h0 : Pv 0 σ H) (hl : ∀ i σ H, Pv i σ H → SqL K H a xs)
    (ht : ∀ i x σ H T, xs[i]? = some x → H T = none → Pv i σ H → asgn m1 (fun σ1 H1 => asgn m2 (fun σ2 H2 => tb ⟨Pv (i + 1), rt, n, Pv (i + 1)⟩ σ2 H2) x σ1 H1) (.int (i : Int)) σ (upd H T (.tup [.int (i : Int), x])))
    (hd : ∀ σ H, Pv xs.length σ H → n σ H) : forEK K (gTup K 2 (gCons (gName m1) (gCons (gName m2) gNil))) tb n rt σ [.ref a] H := by
  refine ⟨a, xs, rfl, hs, fun i m σ H => m = xs.length - i ∧ i ≤ xs.length ∧ Pv i σ H, ⟨xs.length, rfl, Nat.zero_le _, h0⟩, ?_⟩
  rintro i m σ H ⟨rfl, hi, p⟩
  by_cases hlt : i < xs.length
  · refine .inr ⟨⟨xs, xs[i], hl i σ H p, List.getElem?_eq_getElem hlt⟩, fun σ' H' => Pv (i + 1) σ' H', fun σ' H' q => ⟨xs.length - (i + 1), by omega, rfl, hlt, q⟩, fun v H' hy => ?_⟩
    obtain ⟨T, x, rfl, nT, rfl, ex⟩ := hy
    have ex := ex xs (hl i σ H p)
    exact ⟨T, [.int (i : Int), x], rfl, stt_of upd_same, rfl, _, _, rfl, _, _, rfl, rfl, ht i x σ H T ex nT p⟩
  · have e : i = xs.length := by omega
    subst e
    exact .inl ⟨⟨xs, hl _ σ H p, Nat.le_refl _⟩, hd σ H p⟩
theorem for_EI {ns : List Int} (hs : SqL K H a (ns.map V.int)) (Pv : Nat → St → Hp → Prop) (h0 : Pv 0 σ H) (hl : ∀ i σ H, Pv i σ H → SqL K H a (ns.map V.int))
    (ht : ∀ i z σ H T, ns[i]? = some z → H T = none → Pv i σ H → asgn m1 (fun σ1 H1 => asgn m2 (fun σ2 H2 => tb ⟨Pv (i + 1), rt, n, Pv (i + 1)⟩ σ2 H2) (.int z) σ1 H1) (.int (i : Int)) σ (upd H T (.tup [.int (i : Int), .int z])))
    (hd : ∀ σ H, Pv ns.length σ H → n σ H) : forEK K (gTup K 2 (gCons (gName m1) (gCons (gName m2) gNil))) tb n rt σ [.ref a] H := by
  refine for_E hs Pv h0 hl (fun i x σ H T hx hT p => ?_) fun σ H p => hd σ H (by rw [List.length_map] at p; exact p)
  obtain ⟨z, hz, rfl⟩ := map_at hx
  exact ht i z σ H T hz hT p
end
/-! ### isinstance of own classes -/
class HasIns (K : PySem.W.Frag) (C : Str) : Prop where
  ha : PySem.W.findIn K (.ref (He.ga K C)) "__class__" = some (some (.builtin "object.__class__"))
  hn : PySem.W.specialIn K (.builtin "object.__class__") "__get__" = some (some (.builtin "getset_descriptor.__get__"))
  ht : PySem.W.takesIn K (.builtin "object.__class__") = some true
  hm : PySem.W.mroIn K (He.ga K C) (.type "object") = some true
class HasKit (K : PySem.W.Frag) (C D : Str) (b : outParam Bool) : Prop where h : PySem.W.kitOne K (.ref (He.ga K C)) (.ref (He.ga K D)) = some b
theorem ty_ins {K : PySem.W.Frag} {H : Hp} {a dx : Addr} {C : Str} {fs : List (Str × V)} [c : HasCls K C] [i : HasIns K C] (h : H a = some (.ins (He.ga K C) dx fs)) : TyX K H (.ref a) (.ref (He.ga K C)) := .base (.ins h c.h i.ha i.hn i.ht i.hm)
theorem g_isiC {K : PySem.W.Frag} {H : Hp} {Q : VK} {a dx : Addr} {C D : Str} {b : Bool} {fs : List (Str × V)} [HasCls K C] [HasIns K C] [k : HasKit K C D b] (h : H a = some (.ins (He.ga K C) dx fs)) (q : Q (.bl b) H) : rIsi2 K [.ref a, .ref (He.ga K D)] H Q :=
  .inl ⟨.ref a, .ref (He.ga K D), .ref (He.ga K C), .ref (He.ga K D), b, rfl, .own _, ty_ins h, k.h, q⟩
/-! ### shifts of 1 -/
theorem g_sh15 {H : Hp} {Q : VK} (q : Q (.int 32768) H) : rLsh (.int 1) (.int 15) H Q := g_lshE (e := 32768) ⟨by decide, by decide⟩ (by decide) (by simpa using q)
theorem g_sh16 {H : Hp} {Q : VK} (q : Q (.int 65536) H) : rLsh (.int 1) (.int 16) H Q := g_lshE (e := 65536) ⟨by decide, by decide⟩ (by decide) (by simpa using q)
theorem g_sh23 {H : Hp} {Q : VK} (q : Q (.int 8388608) H) : rLsh (.int 1) (.int 23) H Q := g_lshE (e := 8388608) ⟨by decide, by decide⟩ (by decide) (by simpa using q)
theorem g_sh24 {H : Hp} {Q : VK} (q : Q (.int 16777216) H) : rLsh (.int 1) (.int 24) H Q := g_lshE (e := 16777216) ⟨by decide, by decide⟩ (by decide) (by simpa using q)
theorem g_sh40 {H : Hp} {Q : VK} (q : Q (.int 1099511627776) H) : rLsh (.int 1) (.int 40) H Q := g_lshE (e := 1099511627776) ⟨by decide, by decide⟩ (by decide) (by simpa using q)
theorem g_sh48 {H : Hp} {Q : VK} (q : Q (.int 281474976710656) H) : rLsh (.int 1) (.int 48) H Q := g_lshE (e := 281474976710656) ⟨by decide, by decide⟩ (by decide) (by simpa using q)
theorem g_p30 {H : Hp} {Q : VK} (q : Q (.int 1000000000000000000000000000000) H) : rPow (.int 10) (.int 30) H Q := g_powE' ⟨by decide, by decide, by decide⟩ (by decide) q
/-! Fo, zip: loops and comprehensions over two lists of ints. -/
def forZK (K : PySem.W.Frag) (g : TG) (tb : TS) (n : St → Hp → Prop) (rt : VK) (σ : St) (vs : List V) (H : Hp) : Prop := ∃ a b xs ys, vs = [.ref a, .ref b] ∧ SqL K H a xs ∧ SqL K H b ys ∧ forJ (Itz K a b) g tb n rt σ H
def lcZK (K : PySem.W.Frag) (g : TG) (tt : TT) (te : TE) (us : List Nat) (σ : St) (vs : List V) (H : Hp) (Q : VK) : Prop := ∃ a b xs ys, vs = [.ref a, .ref b] ∧ SqL K H a xs ∧ SqL K H b ys ∧ lcJ (Itz K a b) g tt te us σ H Q
def eachZ (te : TE) (m1 m2 : Nat) (σ : St) (H1 : Hp) (w c : Int) (y : V) : Prop :=
  ∀ H2 Q, Same H1 H2 → (∀ H3, Same H2 H3 → Q y H3) → asgn m1 (fun σ1 H' => asgn m2 (fun σ2 H'' => te σ2 H'' Q) (.int c) σ1 H') (.int w) ((σ.set m2 none).set m1 none) H2
section
variable {K : PySem.W.Frag} {σ σ' : St} {H H' : Hp} {Q : VK} {te : TE} {ta : TA} {tb : TS} {g : TG} {n : St → Hp → Prop} {rt : VK} {bk ct : St → Hp → Prop} {a b : Addr} {ws cs : List Int} {m1 m2 : Nat} {i : Nat} {x y : V}
theorem g_forZ (q : ta σ H fun vs H1 => forZK K g tb n rt σ vs H1) : tFor (iZip K ta) g tb ⟨n, rt, bk, ct⟩ σ H := q
theorem g_lcZ {tt : TT} {us : List Nat} (q : ta σ H fun vs H1 => lcZK K g tt te us σ vs H1 Q) : tLc (iZip K ta) g tt te us σ H Q := q
theorem zip_at (hw : SqL K H a (ws.map V.int)) (hc : SqL K H b (cs.map V.int)) (hx : ∀ xs, SqL K H a xs → xs[i]? = some x) (hy : ∀ ys, SqL K H b ys → ys[i]? = some y) : ∃ w c, ws[i]? = some w ∧ cs[i]? = some c ∧ x = .int w ∧ y = .int c := by
  obtain ⟨w, ew, rfl⟩ := map_at (hx _ hw)
  obtain ⟨c, ec, rfl⟩ := map_at (hy _ hc)
  exact ⟨w, c, ew, ec, rfl, rfl⟩
theorem for_ZI (hs : SqL K H a (ws.map V.int)) (hc : SqL K H b (cs.map V.int)) (hl : ws.length = cs.length) (Pv : Nat → St → Hp → Prop) (h0 : Pv 0 σ H) (hk : ∀ i σ H, Pv i σ H → SqL K H a (ws.map V.int) ∧ SqL K H b (cs.map V.int))
    (ht : ∀ i w c σ H T, ws[i]? = some w → cs[i]? = some c → H T = none → Pv i σ H → asgn m1 (fun σ1 H1 => asgn m2 (fun σ2 H2 => tb ⟨Pv (i + 1), rt, n, Pv (i + 1)⟩ σ2 H2) (.int c) σ1 H1) (.int w) σ (upd H T (.tup [.int w, .int c])))
    (hd : ∀ σ H, Pv ws.length σ H → n σ H) : forZK K (gTup K 2 (gCons (gName m1) (gCons (gName m2) gNil))) tb n rt σ [.ref a, .ref b] H := by
  refine ⟨a, b, _, _, rfl, hs, hc, fun i m σ H => m = ws.length - i ∧ i ≤ ws.length ∧ Pv i σ H, ⟨ws.length, rfl, Nat.zero_le _, h0⟩, ?_⟩
  rintro i m σ H ⟨rfl, hi, p⟩
  obtain ⟨ka, kb⟩ := hk i σ H p
  by_cases hlt : i < ws.length
  · refine .inr ⟨⟨_, _, .int ws[i], .int (cs[i]'(hl ▸ hlt)), ka, kb, ?_, ?_⟩, fun σ' H' => Pv (i + 1) σ' H', fun σ' H' q => ⟨ws.length - (i + 1), by omega, rfl, hlt, q⟩, fun v H' hy => ?_⟩
    · rw [List.getElem?_map, List.getElem?_eq_getElem hlt]; rfl
    · rw [List.getElem?_map, List.getElem?_eq_getElem (hl ▸ hlt)]; rfl
    obtain ⟨T, x, y, rfl, nT, rfl, ex, ey⟩ := hy
    obtain ⟨w, c, ew, ec, rfl, rfl⟩ := zip_at ka kb ex ey
    exact ⟨T, [.int w, .int c], rfl, stt_of upd_same, rfl, _, _, rfl, _, _, rfl, rfl, ht i w c σ H T ew ec nT p⟩
  · have e : i = ws.length := by omega
    subst e
    exact .inl ⟨⟨_, _, ka, kb, .inl (by rw [List.length_map]; exact Nat.le_refl _)⟩, hd σ H p⟩
theorem wipe2 (hne : m1 ≠ m2) (x y : Option V) : wipe (((wipe σ [m1, m2]).set m1 x).set m2 y) [m1, m2] = wipe σ [m1, m2] := by
  show ((((((σ.set m2 none).set m1 none).set m1 x).set m2 y).set m2 none).set m1 none) = ((σ.set m2 none).set m1 none)
  rw [List.set_set, List.set_set, List.set_comm x none hne, List.set_set, List.set_set]
theorem lc_ZI (hs : SqL K H a (ws.map V.int)) (hc : SqL K H b (cs.map V.int)) (hl : ws.length = cs.length) (hne : m1 ≠ m2) (f : Int → Int → V) (hb : ws.length ≤ 1000000)
    (he : ∀ w c, w ∈ ws → c ∈ cs → eachZ te m1 m2 σ H w c (f w c)) (hq : ∀ D H3, H D = none → Same H H3 → H3 D = some (.lst (List.zipWith f ws cs)) → Q (.ref D) H3) :
    lcZK K (gTup K 2 (gCons (gName m1) (gCons (gName m2) gNil))) tYes te [m1, m2] σ [.ref a, .ref b] H Q := by
  refine ⟨a, b, _, _, rfl, hs, hc, fun D hD => ?_⟩
  refine ⟨fun i k H3 => k = ws.length - i ∧ i ≤ ws.length ∧ Same H H3 ∧ H3 D = some (.lst (List.zipWith f (ws.take i) (cs.take i))), ⟨ws.length, rfl, Nat.zero_le _, same_new (Same.refl _) hD, upd_same⟩, ?_⟩
  rintro i k H3 ⟨rfl, hi, s, e⟩
  have ka := s.seq hs
  have kb := s.seq hc
  by_cases hlt : i < ws.length
  · refine .inr ⟨⟨_, _, .int ws[i], .int (cs[i]'(hl ▸ hlt)), ka, kb, ?_, ?_⟩, fun H4 => Same H H4 ∧ H4 D = some (.lst (List.zipWith f (ws.take (i + 1)) (cs.take (i + 1)))), fun H4 p => ⟨ws.length - (i + 1), by omega, rfl, hlt, p⟩, fun v H4 hy => ?_⟩
    · rw [List.getElem?_map, List.getElem?_eq_getElem hlt]; rfl
    · rw [List.getElem?_map, List.getElem?_eq_getElem (hl ▸ hlt)]; rfl
    obtain ⟨T, x, y, rfl, nT, rfl, ex, ey⟩ := hy
    obtain ⟨w, c, ew, ec, rfl, rfl⟩ := zip_at ka kb ex ey
    refine ⟨T, [.int w, .int c], rfl, stt_of upd_same, rfl, _, _, rfl, _, _, rfl, rfl, wipe2 hne _ _, ?_⟩
    have yes : ∀ {A B : Prop}, A → if true = true then A else B := fun h => iteT h
    refine yes (B := ((fun H2 => Same H H2 ∧ H2 D = some (HO.lst (List.zipWith f (ws.take (i + 1)) (cs.take (i + 1))))) (upd H3 T (.tup [.int w, .int c])))) ?_
    have nTD : D ≠ T := ne_of_none e nT
    refine he w c (List.mem_of_getElem? ew) (List.mem_of_getElem? ec) _ _ (same_new s nT) fun H5 s5 => ⟨List.zipWith f (ws.take i) (cs.take i), s5 _ _ (lk_mut nTD e), ?_, same_mut (Same.trans (same_new s nT) s5) hD, ?_⟩
    · rw [List.length_zipWith, List.length_take]
      refine Nat.lt_of_le_of_lt (m := 1000000) ?_ (by decide)
      omega
    · rw [upd_same, List.take_add_one, List.take_add_one, ew, ec]
      rw [List.zipWith_append (by simp only [List.length_take]; omega)]
      rfl
  · have e1 : i = ws.length := by omega
    subst e1
    rw [List.take_length, List.take_of_length_le (Nat.le_of_eq hl.symm)] at e
    exact .inl ⟨⟨_, _, ka, kb, .inl (by rw [List.length_map]; exact Nat.le_refl _)⟩, hq D H3 hD s e⟩
end
/-! ### ranges with a step -/
def forR3K (g : TG) (tb : TS) (n : St → Hp → Prop) (rt : VK) (σ : St) (vs : List V) (H : Hp) : Prop := ∃ (i j c : Int) (k : Nat), vs = [.int i, .int j, .int c] ∧ RgC i j c k ∧ forJ (Itc i c k) g tb n rt σ H
def lcR3K (g : TG) (tt : TT) (te : TE) (vs : List Nat) (σ : St) (us : List V) (H : Hp) (Q : VK) : Prop := ∃ (i j c : Int) (k : Nat), us = [.int i, .int j, .int c] ∧ RgC i j c k ∧ lcJ (Itc i c k) g tt te vs σ H Q
section
variable {K : PySem.W.Frag} {σ σ' : St} {H H' : Hp} {Q : VK} {te : TE} {ta : TA} {tb : TS} {g : TG} {n : St → Hp → Prop} {rt : VK} {bk ct : St → Hp → Prop} {m k : Nat} {i j c : Int}
theorem g_forR3 (q : ta σ H fun vs H1 => forR3K g tb n rt σ vs H1) : tFor (iRng3 ta) g tb ⟨n, rt, bk, ct⟩ σ H := q
theorem g_lcR3 {tt : TT} {vs : List Nat} (q : ta σ H fun us H1 => lcR3K g tt te vs σ us H1 Q) : tLc (iRng3 ta) g tt te vs σ H Q := q
theorem for_R3 (hr : RgC i j c k) (Pv : Nat → St → Hp → Prop) (h0 : Pv 0 σ H)
    (ht : ∀ (l : Nat) σ H, l < k → Pv l σ H → asgn m (fun σ2 H2 => tb ⟨Pv (l + 1), rt, n, Pv (l + 1)⟩ σ2 H2) (.int (i + (l : Int) * c)) σ H) (hd : ∀ σ H, Pv k σ H → n σ H) : forR3K (gName m) tb n rt σ [.int i, .int j, .int c] H := by
  refine ⟨i, j, c, k, rfl, hr, fun l mm σ H => mm = k - l ∧ l ≤ k ∧ Pv l σ H, ⟨k, rfl, Nat.zero_le _, h0⟩, ?_⟩
  rintro l mm σ H ⟨rfl, hl, p⟩
  by_cases hlt : l < k
  · refine .inr ⟨hlt, fun σ' H' => Pv (l + 1) σ' H', fun σ' H' q => ⟨k - (l + 1), by omega, rfl, hlt, q⟩, fun v H' hy => ?_⟩
    obtain ⟨rfl, rfl⟩ := hy
    exact ht l σ _ hlt p
  · have e : l = k := by omega
    subst e
    exact .inl ⟨Nat.le_refl _, hd σ H p⟩
theorem lc_R3 (hr : RgC i j c k) (f : Nat → V) (hl : k ≤ 1000000) (he : ∀ l, l < k → ∀ D, eachK te m σ H D (.int (i + (l : Int) * c)) (f l)) (hq : ∀ D H3, H D = none → Same H H3 → H3 D = some (.lst ((List.range k).map f)) → Q (.ref D) H3) :
    lcR3K (gName m) tYes te [m] σ [.int i, .int j, .int c] H Q := by
  refine ⟨i, j, c, k, rfl, hr, fun D hD => ?_⟩
  refine ⟨fun l kk H3 => kk = k - l ∧ l ≤ k ∧ Same H H3 ∧ H3 D = some (.lst ((List.range l).map f)), ⟨k, rfl, Nat.zero_le _, same_new (Same.refl _) hD, upd_same⟩, ?_⟩
  rintro l kk H3 ⟨rfl, hlk, s, e⟩
  by_cases hlt : l < k
  · refine .inr ⟨hlt, fun H4 => Same H H4 ∧ H4 D = some (.lst ((List.range (l + 1)).map f)), fun H4 p => ⟨k - (l + 1), by omega, rfl, hlt, p⟩, fun v H4 hy => ?_⟩
    obtain ⟨rfl, rfl⟩ := hy
    refine ⟨wipe1 _, ?_⟩
    have yes : ∀ {A B : Prop}, A → if true = true then A else B := fun h => iteT h
    refine yes (B := ((fun H2 => Same H H2 ∧ H2 D = some (HO.lst ((List.range (l + 1)).map f))) H4)) ?_
    refine he l hlt D H4 _ s fun H5 s5 => ⟨(List.range l).map f, s5 _ _ e, ?_, same_mut (Same.trans s s5) hD, ?_⟩
    · rw [List.length_map, List.length_range]
      exact Nat.lt_of_le_of_lt (m := 1000000) (by omega) (by decide)
    · rw [upd_same, List.range_succ, List.map_append]
      rfl
  · have e1 : l = k := by omega
    subst e1
    exact .inl ⟨Nat.le_refl _, hq D H3 hD s e⟩
end
theorem g_mask1 {i : Int} {H : Hp} {Q : VK} (q : Q (.int (i % 2)) H) : rMask (.int i) (.int 1) H Q := ⟨i, 1, rfl, by decide, q⟩
theorem g_extend {H : Hp} {Q : VK} {p r : Addr} {xs ys : List V} (h : H p = some (.lst xs)) (k : H r = some (.lst ys)) (hl : xs.length + ys.length ≤ sizeLine) (q : Q .non (upd H p (.lst (xs ++ ys)))) : rExtend (.ref p) [.ref r] H Q :=
  ⟨p, r, xs, ys, rfl, rfl, h, k, hl, q⟩
/-! ### comprehensions whose elements are new things: each is related to its item -/
section
variable {K : PySem.W.Frag} {σ : St} {H : Hp} {Q : VK} {te : TE} {m : Nat} {a : Addr} {ns : List Int}
theorem lc_LR (hs : SqL K H a (ns.map V.int)) (R : Int → V → Hp → Prop) (mono : ∀ z y H0 H1 D zs, H0 D = some (.lst zs) → SameX (· = D) H0 H1 → R z y H0 → R z y H1) (hl : ns.length ≤ 1000000)
    (he : ∀ z, z ∈ ns → ∀ H2 Q2, Same H H2 → (∀ y H3, Same H2 H3 → R z y H3 → Q2 y H3) → asgn m (fun σ2 H2 => te σ2 H2 Q2) (.int z) (σ.set m none) H2)
    (hq : ∀ D H3 ys, H D = none → Same H H3 → H3 D = some (.lst ys) → ys.length = ns.length → (∀ (i : Nat) z y, ns[i]? = some z → ys[i]? = some y → R z y H3) → Q (.ref D) H3) :
    lcLK K (gName m) tYes te [m] σ (.ref a) H Q := by
  refine ⟨a, rfl, ⟨_, hs⟩, fun D hD => ?_⟩
  refine ⟨fun i k H3 => k = ns.length - i ∧ i ≤ ns.length ∧ Same H H3 ∧ ∃ ys, H3 D = some (.lst ys) ∧ ys.length = i ∧ ∀ (j : Nat) z y, ns[j]? = some z → ys[j]? = some y → R z y H3, ⟨ns.length, rfl, Nat.zero_le _, same_new (Same.refl _) hD, [], upd_same, rfl, fun j z y _ h => by simp at h⟩, ?_⟩
  rintro i k H3 ⟨rfl, hi, s, ys, e, yl, hr⟩
  have ka := s.seq hs
  by_cases hlt : i < ns.length
  · refine .inr ⟨⟨_, .int ns[i], ka, by rw [List.getElem?_map, List.getElem?_eq_getElem hlt]; rfl⟩, fun H4 => Same H H4 ∧ ∃ ys, H4 D = some (.lst ys) ∧ ys.length = i + 1 ∧ ∀ (j : Nat) z y, ns[j]? = some z → ys[j]? = some y → R z y H4, fun H4 p => ⟨ns.length - (i + 1), by omega, rfl, hlt, p⟩, fun v H4 hy => ?_⟩
    obtain ⟨rfl, ex⟩ := hy
    obtain ⟨z, ez, rfl⟩ := map_at (ex _ ka)
    refine ⟨wipe1 _, ?_⟩
    have yes : ∀ {A B : Prop}, A → if true = true then A else B := fun h => iteT h
    refine yes (B := ((fun H4 => Same H H4 ∧ ∃ ys, H4 D = some (HO.lst ys) ∧ ys.length = i + 1 ∧ ∀ (j : Nat) z y, ns[j]? = some z → ys[j]? = some y → R z y H4) H4)) ?_
    refine he z (List.mem_of_getElem? ez) H4 _ s fun y H5 s5 ry => ⟨ys, s5 _ _ e, Nat.lt_of_le_of_lt (m := 1000000) (by omega) (by decide), same_mut (Same.trans s s5) hD, ys ++ [y], upd_same, by rw [List.length_append, yl]; rfl, fun j z' y' hz' hy' => ?_⟩
    have X : SameX (· = D) H5 (upd H5 D (.lst (ys ++ [y]))) := (SameX.refl H5).mut rfl
    rcases Nat.lt_or_ge j i with c | c
    · rw [List.getElem?_append_left (by omega)] at hy'
      exact mono _ _ _ _ D ys (s5 _ _ e) X (mono _ _ _ _ D ys e (SameX.of s5) (hr j z' y' hz' hy'))
    · have ej : j = i := by
        have h2 := (List.getElem?_eq_some_iff.mp hy').1
        rw [List.length_append, yl, List.length_singleton] at h2
        omega
      subst ej
      rw [List.getElem?_append_right (by omega), yl, Nat.sub_self] at hy'
      rw [ez] at hz'
      cases hz'
      cases hy'
      exact mono _ _ _ _ D ys (s5 _ _ e) X ry
  · have e1 : i = ns.length := by omega
    subst e1
    exact .inl ⟨⟨_, ka, by rw [List.length_map]; exact Nat.le_refl _⟩, hq D H3 ys hD s e yl hr⟩
end
/-! Fo, comprehensions by what holds at each turn; with a test. -/
section
variable {K : PySem.W.Frag} {σ : St} {H : Hp} {Q : VK} {te : TE} {ta : TA} {tt : TT} {g : TG} {m : Nat} {a : Addr} {xs : List V} {i j : Int} {k : Nat}
/-- over anything, by what holds of the new list and all that is done so far -/
theorem lc_LN (hs : SqL K H a xs) (hl : xs.length ≤ 1000000) (I : Addr → Nat → List V → Hp → Prop) (h0 : ∀ D, H D = none → I D 0 [] (upd H D (.lst [])))
    (hk : ∀ D i ys H2, I D i ys H2 → SqL K H2 a xs ∧ H2 D = some (.lst ys) ∧ ys.length = i)
    (he : ∀ D i x ys H2 Q2, xs[i]? = some x → I D i ys H2 → (∀ y H4, H4 D = some (.lst ys) → I D (i + 1) (ys ++ [y]) (upd H4 D (.lst (ys ++ [y]))) → Q2 y H4) → asgn m (fun σ2 H2 => te σ2 H2 Q2) x (σ.set m none) H2)
    (hq : ∀ D ys H3, I D xs.length ys H3 → Q (.ref D) H3) : lcLK K (gName m) tYes te [m] σ (.ref a) H Q := by
  refine ⟨a, rfl, ⟨_, hs⟩, fun D hD => ?_⟩
  refine ⟨fun i k H3 => k = xs.length - i ∧ i ≤ xs.length ∧ ∃ ys, I D i ys H3, ⟨xs.length, rfl, Nat.zero_le _, [], h0 D hD⟩, ?_⟩
  rintro i k H3 ⟨rfl, hi, ys, hI⟩
  obtain ⟨ka, e, yl⟩ := hk D i ys H3 hI
  by_cases hlt : i < xs.length
  · refine .inr ⟨⟨_, xs[i], ka, List.getElem?_eq_getElem hlt⟩, fun H4 => ∃ ys, I D (i + 1) ys H4, fun H4 p => ⟨xs.length - (i + 1), by omega, rfl, hlt, p⟩, fun v H4 hy => ?_⟩
    obtain ⟨rfl, ex⟩ := hy
    have ex := ex _ ka
    refine ⟨wipe1 _, ?_⟩
    have yes : ∀ {A B : Prop}, A → if true = true then A else B := fun h => iteT h
    refine yes (B := ((fun H4 => ∃ ys, I D (i + 1) ys H4) H4)) ?_
    exact he D i v ys H4 _ ex hI fun y H5 e5 I5 => ⟨ys, e5, Nat.lt_of_le_of_lt (m := 1000000) (by omega) (by decide), ys ++ [y], I5⟩
  · have e1 : i = xs.length := by omega
    subst e1
    exact .inl ⟨⟨_, ka, Nat.le_refl _⟩, hq D ys H3 hI⟩
/-- over 0 .. k -/
theorem lc_R1N (hk : j = (k : Int)) (hl : k ≤ 1000000) (I : Addr → Nat → List V → Hp → Prop) (h0 : ∀ D, H D = none → I D 0 [] (upd H D (.lst [])))
    (hI : ∀ D i ys H2, I D i ys H2 → H2 D = some (.lst ys) ∧ ys.length = i)
    (he : ∀ D i ys H2 Q2, i < k → I D i ys H2 → (∀ y H4, H4 D = some (.lst ys) → I D (i + 1) (ys ++ [y]) (upd H4 D (.lst (ys ++ [y]))) → Q2 y H4) → asgn m (fun σ2 H2 => te σ2 H2 Q2) (.int (i : Int)) (σ.set m none) H2)
    (hq : ∀ D ys H3, I D k ys H3 → Q (.ref D) H3) : lcR1K (gName m) tYes te [m] σ [.int j] H Q := by
  subst hk
  refine ⟨k, rfl, by omega, by omega, fun D hD => ?_⟩
  refine ⟨fun i n H3 => n = k - i ∧ i ≤ k ∧ ∃ ys, I D i ys H3, ⟨k, rfl, Nat.zero_le _, [], h0 D hD⟩, ?_⟩
  rintro i n H3 ⟨rfl, hi, ys, hI3⟩
  obtain ⟨e, yl⟩ := hI D i ys H3 hI3
  by_cases hlt : i < k
  · refine .inr ⟨by show i < (k : Int).toNat; simpa using hlt, fun H4 => ∃ ys, I D (i + 1) ys H4, fun H4 p => ⟨k - (i + 1), by omega, rfl, hlt, p⟩, fun v H4 hy => ?_⟩
    obtain ⟨rfl, rfl⟩ := hy
    refine ⟨wipe1 _, ?_⟩
    have yes : ∀ {A B : Prop}, A → if true = true then A else B := fun h => iteT h
    refine yes (B := ((fun H4 => ∃ ys, I D (i + 1) ys H4) H4)) ?_
    rw [show (0 : Int) + (i : Int) = (i : Int) by omega]
    exact he D i ys H4 _ hlt hI3 fun y H5 e5 I5 => ⟨ys, e5, Nat.lt_of_le_of_lt (m := 1000000) (by omega) (by decide), ys ++ [y], I5⟩
  · have e1 : i = k := by omega
    subst e1
    exact .inl ⟨by show (i : Int).toNat ≤ i; simp, hq D ys H3 hI3⟩
/-- with a test, over an iteration of ints from i -/
theorem lc_testJ {J : It} (b : Int) (hg : ∀ i H, i < k → J.go i H) (hy : ∀ i H x H2, J.yld i H x H2 → H2 = H ∧ x = .int (b + (i : Int))) (hs : ∀ H, J.stop k H) (hl : k ≤ 1000000) (p : Nat → Bool) (f : Nat → V)
    (he : ∀ i, i < k → ∀ H2 (A : V → Hp → Prop) (B : Hp → Prop), Same H H2 → (p i = true → ∀ H3, Same H2 H3 → A (f i) H3) → (p i = false → ∀ H3, Same H2 H3 → B H3) →
      asgn m (fun σ2 H2 => tt σ2 H2 fun b H3 => if b = true then te σ2 H3 A else B H3) (.int (b + (i : Int))) (σ.set m none) H2)
    (hq : ∀ D H3, H D = none → Same H H3 → H3 D = some (.lst (((List.range k).filter p).map f)) → Q (.ref D) H3) : lcJ J (gName m) tt te [m] σ H Q := by
  intro D hD
  refine ⟨fun i n H3 => n = k - i ∧ i ≤ k ∧ Same H H3 ∧ H3 D = some (.lst (((List.range i).filter p).map f)), ⟨k, rfl, Nat.zero_le _, same_new (Same.refl _) hD, upd_same⟩, ?_⟩
  rintro i n H3 ⟨rfl, hi, s, e⟩
  by_cases hlt : i < k
  · refine .inr ⟨hg i H3 hlt, fun H4 => Same H H4 ∧ H4 D = some (.lst (((List.range (i + 1)).filter p).map f)), fun H4 q => ⟨k - (i + 1), by omega, rfl, hlt, q⟩, fun v H4 hyy => ?_⟩
    obtain ⟨rfl, rfl⟩ := hy _ _ _ _ hyy
    refine ⟨wipe1 _, ?_⟩
    refine he i hlt H4 _ _ s (fun hp H5 s5 => ⟨((List.range i).filter p).map f, s5 _ _ e, ?_, same_mut (Same.trans s s5) hD, ?_⟩) fun hp H5 s5 => ⟨Same.trans s s5, ?_⟩
    · rw [List.length_map]
      have := List.length_filter_le p (List.range i)
      rw [List.length_range] at this
      exact Nat.lt_of_le_of_lt (m := 1000000) (by omega) (by decide)
    · rw [upd_same, List.range_succ, List.filter_append, List.map_append]
      simp [hp]
    · rw [s5 _ _ e, List.range_succ, List.filter_append, List.map_append]
      simp [hp]
  · have e1 : i = k := by omega
    subst e1
    exact .inl ⟨hs H3, hq D H3 hD s e⟩
theorem lc_R1F (hk : j = (k : Int)) (hl : k ≤ 1000000) (p : Nat → Bool) (f : Nat → V)
    (he : ∀ i, i < k → ∀ H2 (A : V → Hp → Prop) (B : Hp → Prop), Same H H2 → (p i = true → ∀ H3, Same H2 H3 → A (f i) H3) → (p i = false → ∀ H3, Same H2 H3 → B H3) →
      asgn m (fun σ2 H2 => tt σ2 H2 fun b H3 => if b = true then te σ2 H3 A else B H3) (.int (0 + (i : Int))) (σ.set m none) H2)
    (hq : ∀ D H3, H D = none → Same H H3 → H3 D = some (.lst (((List.range k).filter p).map f)) → Q (.ref D) H3) : lcR1K (gName m) tt te [m] σ [.int j] H Q := by
  subst hk
  refine ⟨k, rfl, by omega, by omega, lc_testJ (J := Itr 0 (k : Int).toNat) 0 (fun i H hi => by show i < (k : Int).toNat; simpa using hi) (fun i H x H2 y => y) (fun H => by show (k : Int).toNat ≤ k; simp) hl p f he hq⟩
def lcR2K (g : TG) (tt : TT) (te : TE) (vs : List Nat) (σ : St) (us : List V) (H : Hp) (Q : VK) : Prop := ∃ i j : Int, us = [.int i, .int j] ∧ (-(2 ^ 62) ≤ i ∧ i < 2 ^ 62 ∧ -(2 ^ 62) ≤ j ∧ j < 2 ^ 62) ∧ lcJ (Itr i (j - i).toNat) g tt te vs σ H Q
theorem g_lcR2 {vs : List Nat} (q : ta σ H fun us H1 => lcR2K g tt te vs σ us H1 Q) : tLc (iRng2 ta) g tt te vs σ H Q := q
theorem lc_R2F (hk : (j - i).toNat = k) (hb : -(2 ^ 62) ≤ i ∧ i < 2 ^ 62 ∧ -(2 ^ 62) ≤ j ∧ j < 2 ^ 62) (hl : k ≤ 1000000) (p : Nat → Bool) (f : Nat → V)
    (he : ∀ l, l < k → ∀ H2 (A : V → Hp → Prop) (B : Hp → Prop), Same H H2 → (p l = true → ∀ H3, Same H2 H3 → A (f l) H3) → (p l = false → ∀ H3, Same H2 H3 → B H3) →
      asgn m (fun σ2 H2 => tt σ2 H2 fun b H3 => if b = true then te σ2 H3 A else B H3) (.int (i + (l : Int))) (σ.set m none) H2)
    (hq : ∀ D H3, H D = none → Same H H3 → H3 D = some (.lst (((List.range k).filter p).map f)) → Q (.ref D) H3) : lcR2K (gName m) tt te [m] σ [.int i, .int j] H Q := by
  subst hk
  exact ⟨i, j, rfl, hb, lc_testJ (J := Itr i (j - i).toNat) i (fun l H hl => hl) (fun l H x H2 y => y) (fun H => Nat.le_refl _) hl p f he hq⟩
end
/-! ### and, of any two ints -/
def rBits : R2 := rI0 fun i j => .int (Builtin.bitAnd i j)
theorem o_bits {X : Cx} : OpR X (binaryOp .BitAnd) rBits := op_and
theorem g_bitand {i j : Int} {H : Hp} {Q : VK} (q : Q (.int (Builtin.bitAnd i j)) H) : rBits (.int i) (.int j) H Q := ⟨i, j, rfl, rfl, q⟩
theorem ixN_nat {n k : Nat} (h : k < n) : ixN n (k : Int) = some k := by
  unfold ixN
  rw [if_pos (by omega), if_pos (by omega)]
  rfl
theorem g_setL {H : Hp} {p : Addr} {xs : List V} {n : Nat} {v : V} {nH : Hp → Prop} (h : H p = some (.lst xs)) (hn : n < xs.length) (q : nH (upd H p (.lst (xs.set n v)))) : rSetL (.ref p) (.int (n : Int)) v H nH := ⟨p, xs, n, n, rfl, rfl, h, ixN_nat hn, q⟩
theorem g_on31 {F : V → V → V → Hp → VK → XK → Prop} {a b c : V} {H : Hp} {Q : VK} {E : XK} (q : F a b c H Q E) : on3 F ([a, b] ++ [c]) H Q E := ⟨a, b, c, rfl, q⟩
theorem g_on42 {F : V → V → V → V → Hp → VK → XK → Prop} {a b c d : V} {H : Hp} {Q : VK} {E : XK} (q : F a b c d H Q E) : on4 F ([a, b] ++ [c, d]) H Q E := ⟨a, b, c, d, rfl, q⟩
theorem g_on41 {F : V → V → V → V → Hp → VK → XK → Prop} {a b c d : V} {H : Hp} {Q : VK} {E : XK} (q : F a b c d H Q E) : on4 F ([a, b, c] ++ [d]) H Q E := ⟨a, b, c, d, rfl, q⟩
/-! Fo, try: one clause 'except C as e', its suite asks of which class e is. -/
def rIsET (K : PySem.W.Frag) (D a : Addr) : List V → Hp → VK → Prop := fun xs H Q => ∃ (tp : Addr) (cs : List V) (ws : List Value) (b : Bool), xs = [.ref a, .ref tp] ∧ H tp = some (.tup cs) ∧ Paired ClsV cs ws ∧ PySem.W.kitAny K (.ref D) ws = some b ∧ Q (.bl b) H
theorem call_isET {X : Cx} {a D : Addr} {oe : Obj} {pn : List (Addr × Obj)} (C : ExcC X.K D) (hz : Zc (.ref D) none oe) (hf : ∃ vs, oe.data = .fields vs) : CallR (X.suite a ((a, oe) :: pn)) (.builtin "isinstance") (rIsET X.K D a) := by
  intro pins s σ H xs us Q I r h
  obtain ⟨tp, cs, ws, b, rfl, hT, k, e, q⟩ := h
  obtain ⟨u1, u2, rfl, r1, r2⟩ := vals2 r
  cases (show u2 = Value.ref tp from r2)
  cases (show u1 = Value.ref a from r1)
  obtain ⟨_, its, rv, o, h1, h2, n, h3⟩ := (show ObjOk X.prog X.w H s.heap tp (.tup cs) from I.hok tp _ hT)
  have e3 := ClsV.all k rv
  subst e3
  obtain ⟨oc, od, dt, sl⟩ := o
  simp only at h2 h3
  subst h2 h3
  obtain ⟨hget, _⟩ := I.pin (a, oe) (List.mem_append.mpr (.inl List.mem_cons_self))
  obtain ⟨vs, hv⟩ := hf
  have J : PySem.W.InstAt s.heap a oe D none := by
    obtain ⟨oc, od, oda, osl⟩ := oe
    obtain ⟨h1, h2⟩ := hz
    dsimp only at h1 h2 hv
    subst h1 h2 hv
    exact ⟨hget, rfl, rfl, trivial⟩
  exact PySem.W.kia_tup (PySem.W.handS_kitx_exc C.hg C.hk C.hs C.hd C.ha C.hn C.ht C.hm) I.kIn J h1 e (fun z => nomatch z) fun tk => ⟨.bl b, H, I.tok tk, rfl, q⟩
def rIsEx (K : PySem.W.Frag) (D a : Addr) : List V → Hp → VK → Prop := fun xs H Q => rIsE K D a xs H Q ∨ rIsET K D a xs H Q
theorem c_isx {X : Cx} {a D : Addr} {oe : Obj} {pn : List (Addr × Obj)} (C : ExcC X.K D) (hz : Zc (.ref D) none oe) (hf : ∃ vs, oe.data = .fields vs) : CallR (X.suite a ((a, oe) :: pn)) (.builtin "isinstance") (rIsEx X.K D a) := orCall (call_isE C hz hf) (call_isET C hz hf)
/-- the suite, asked of an exception of an own class without a dict -/
def tEx (K : PySem.W.Frag) (ts : Addr → Addr → TS) : Addr → Value → Option Addr → TS := fun a cls d Dd σ H => ∃ D, cls = .ref D ∧ d = none ∧ ExcC K D ∧ ts a D Dd σ H
def tTry (K : PySem.W.Frag) (c : Value) (i : Nat) (tb : WX → TS) (ts : Addr → Addr → TS) (Wout : WX) : TS := fun D σ H => tb (wAs K c i (tEx K ts) Wout D) D σ H
section
variable {X : Cx} {x n : Str} {c : Value} {i : Nat} {body suite : List Stmt} {b₀ : Stmt} {np pos pos' : Pos} {tb : WX → TS} {ts : Addr → Addr → TS} {Wout : WX}
theorem ps_tryX (hs : X.stack = X.env :: X.outer) (hf : X.env.frame = some X.env.locals) (hN : X.N.Nodup) (hi : X.N[i]? = some n) (hln : X.env.kindOf n = some .local) (hc : Names X x c) (tk : Takes X Wout)
    (hb : ∀ (W : WX) (pn : List (Addr × Obj)) (xe : Value → Shared → Prop), Takes (X.tr pn xe) W → PassesOwn (model X.prog X.w) X.A X.env xe → PSs (X.tr pn xe) body (tb W))
    (hsu : ∀ (a : Addr) (oe : Obj) (D : Addr) (pn : List (Addr × Obj)), Zc (.ref D) none oe → (∃ vs, oe.data = .fields vs) → ExcC X.K D → PSs (X.suite a ((a, oe) :: pn)) (b₀ :: suite) (ts a D)) :
    PS X (.Try body [.ExceptHandler (some (.Name x np)) (some n) (b₀ :: suite) pos'] [] [] pos) (tTry X.K c i tb ts Wout) :=
  ps_try_as hs hf hN hi hln hc tk hb fun a oe cls d pn hz hfd => ⟨fun pins s σ H Dd I h => by
    obtain ⟨D, rfl, rfl, C, h⟩ := h
    exact (hsu a oe D pn hz hfd C).run pins s σ H Dd I h⟩
end
class HasExc (K : PySem.W.Frag) (C : Str) : Prop where h : ExcC K (He.ga K C)
class HasExm (K : PySem.W.Frag) (C D : Str) (b : outParam Bool) : Prop where h : PySem.W.exmOne K (.ref (He.ga K C)) (.ref (He.ga K D)) = some b
class HasKitT (K : PySem.W.Frag) (C : Str) (t : String) (b : outParam Bool) : Prop where h : PySem.W.kitOne K (.ref (He.ga K C)) (.type t) = some b
def unset (i : Nat) (n : St → Hp → Prop) : St → Hp → Prop := fun σ H => n (σ.set i none) H
section
variable {K : PySem.W.Frag} {σ σ' : St} {H : Hp} {Q : VK} {c : Value} {i : Nat} {tb : WX → TS} {ts : Addr → Addr → TS} {Wout : WX} {n : St → Hp → Prop} {rt : VK} {bk ct : St → Hp → Prop} {C D : Str} {a : Addr} {b : Bool}
theorem g_try (q : tb (wAs K c i (tEx K ts) Wout ⟨n, rt, bk, ct⟩) ⟨n, rt, bk, ct⟩ σ H) : tTry K c i tb ts Wout ⟨n, rt, bk, ct⟩ σ H := q
/-- what is raised is caught -/
theorem g_caught (e : HasExc K C) (m : HasExm K C D true) (q : ∀ a, H a = none → asgn i (fun σ1 H1 => ts a (He.ga K C) ⟨unset i n, rt, unset i bk, unset i ct⟩ σ1 H1) (.ref a) σ H) :
    wAs K (.ref (He.ga K D)) i (tEx K ts) Wout ⟨n, rt, bk, ct⟩ (.ref (He.ga K C)) none σ H :=
  ⟨true, m.h, fun _ a ha => ⟨He.ga K C, rfl, rfl, e.h, q a ha⟩, fun z => nomatch z⟩
theorem g_we {W : WX} {cls : Value} {d : Option Addr} (q : W cls d σ H) : WE W σ cls d H := q
theorem g_unset (r : SetR σ i none σ') (q : n σ' H) : unset i n σ H := by
  unfold unset
  rw [r.eq]
  exact q
theorem g_isx1 (k : HasKit K C D b) (q : Q (.bl b) H) : rIsEx K (He.ga K C) a [.ref a, .ref (He.ga K D)] H Q := .inl ⟨.ref (He.ga K D), .ref (He.ga K D), b, rfl, fun u r => r, k.h, q⟩
theorem g_isxT {t : String} (k : HasKitT K C t b) (q : Q (.bl b) H) : rIsEx K (He.ga K C) a [.ref a, .ty t] H Q := .inl ⟨.ty t, .type t, b, rfl, fun u r => r, k.h, q⟩
/-- classes whose answer is no -/
inductive NoneOf (K : PySem.W.Frag) (C : Str) : List V → List Value → Prop
  | nil : NoneOf K C [] []
  | cons {D : Str} {vs : List V} {us : List Value} (k : HasKit K C D false) (h : NoneOf K C vs us) : NoneOf K C (.ref (He.ga K D) :: vs) (.ref (He.ga K D) :: us)
theorem NoneOf.pair {vs : List V} {us : List Value} (h : NoneOf K C vs us) : Paired ClsV vs us ∧ PySem.W.kitAny K (.ref (He.ga K C)) us = some false := by
  induction h with
  | nil => exact ⟨.nil, kitAny_nil⟩
  | cons k h ih => exact ⟨.cons (.own _) ih.1, kitAny_cons k.h (fun _ => ih.2) (fun z => nomatch z)⟩
theorem g_isx0 {tp : Addr} {vs : List V} {us : List Value} (h : H tp = some (.tup vs)) (k : NoneOf K C vs us) (q : Q (.bl false) H) : rIsEx K (He.ga K C) a [.ref a, .ref tp] H Q := .inr ⟨tp, vs, us, false, rfl, h, k.pair.1, k.pair.2, q⟩
end
/-! ### one clause 'except C' without a name; several of them -/
def tTryO (K : PySem.W.Frag) (c : Value) (tb : WX → TS) (ts : TS) (Wout : WX) : TS := fun D σ H => tb (wOnly K c (fun _ _ _ => ts) Wout D) D σ H
section
variable {X : Cx} {x : Str} {c : Value} {body suite : List Stmt} {b₀ : Stmt} {np pos pos' : Pos} {tb : WX → TS} {ts : TS} {Wout : WX}
theorem ps_tryO (hs : X.stack = X.env :: X.outer) (hf : X.env.frame = some X.env.locals) (hc : Names X x c) (tk : Takes X Wout)
    (hb : ∀ (W : WX) (pn : List (Addr × Obj)) (xe : Value → Shared → Prop), Takes (X.tr pn xe) W → PassesOwn (model X.prog X.w) X.A X.env xe → PSs (X.tr pn xe) body (tb W))
    (hsu : ∀ (a : Addr) (oe : Obj) (pn : List (Addr × Obj)), PSs (X.suite a ((a, oe) :: pn)) (b₀ :: suite) ts) :
    PS X (.Try body [.ExceptHandler (some (.Name x np)) none (b₀ :: suite) pos'] [] [] pos) (tTryO X.K c tb ts Wout) :=
  ps_try_only (ts := fun _ _ _ => ts) hs hf hc tk hb fun a oe _ _ pn _ _ => hsu a oe pn
end
section
variable {K : PySem.W.Frag} {σ : St} {H : Hp} {c : Value} {tb : WX → TS} {ts : TS} {Wout : WX} {n : St → Hp → Prop} {rt : VK} {bk ct : St → Hp → Prop} {C D : Str}
theorem g_tryO (q : tb (wOnly K c (fun _ _ _ => ts) Wout ⟨n, rt, bk, ct⟩) ⟨n, rt, bk, ct⟩ σ H) : tTryO K c tb ts Wout ⟨n, rt, bk, ct⟩ σ H := q
theorem g_caughtO (m : HasExm K C D true) (q : ts ⟨n, rt, bk, ct⟩ σ H) : wOnly K (.ref (He.ga K D)) (fun _ _ _ => ts) Wout ⟨n, rt, bk, ct⟩ (.ref (He.ga K C)) none σ H :=
  ⟨true, m.h, fun _ _ _ => q, fun z => nomatch z⟩
theorem g_passedO (m : HasExm K C D false) (q : Wout (.ref (He.ga K C)) none σ H) : wOnly K (.ref (He.ga K D)) (fun _ _ _ => ts) Wout ⟨n, rt, bk, ct⟩ (.ref (He.ga K C)) none σ H :=
  ⟨false, m.h, fun z => (nomatch z), fun _ => q⟩
end
/-! Fo, comprehensions whose element may raise: the exception flies out of the comprehension, at the slots ahead of it. -/
theorem noteFrame_frame {e : Value} {a b : Env} (h : a.frame = b.frame) : noteFrame e a = noteFrame e b := by
  unfold noteFrame PySem.frameOf
  rw [h]
theorem frames_but {B B' h h' : Heap} {C : Addr} (hB : ∀ b, B.get? b = none → B'.get? b = none) (same : ∀ b, b ≠ C → h'.get? b = h.get? b) : ∀ {l : List Env}, C ∉ frs l → h.FunFrames B l → h'.FunFrames B' l
  | [], _, _ => trivial
  | env :: l, hC, ⟨k, ⟨L, o, hf, hb, hh, hn⟩, r⟩ => by
    have nL : L ≠ C := fun z => hC (List.mem_filterMap.mpr ⟨env, List.mem_cons_self, by rw [hf, z]⟩)
    exact ⟨k, ⟨L, o, hf, hB L hb, (same L nL).trans hh, hn⟩, frames_but hB same (fun hm => hC (by
      obtain ⟨e, he, q⟩ := List.mem_filterMap.mp hm
      exact List.mem_filterMap.mpr ⟨e, List.mem_cons_of_mem _ he, q⟩)) r⟩
/-- the context of a comprehension's block whose element may raise: what is raised is noted, the block's names go, then it flies on -/
abbrev blkX (X : Cx) (s3 : Shared) (H3 : Hp) (scope : Scope) (ce : Env) (fp : List Addr) (R : Result → Shared → Prop) : Cx := { X.blk s3 H3 scope ce fp with xe := notedBy (model X.prog X.w) X.A ce fun e s' => R (.error e) s' }
section
variable {X : Cx} {W : WX}
theorem blk_out {pins : List (Addr × Obj)} {σ : St} {H3 : Hp} {s3 : Shared} {scope : Scope} {ce : Env} {fp : List Addr} {R : Result → Shared → Prop}
    (hs : X.stack = X.env :: X.outer) (hf : X.env.frame = some X.env.locals) (tk : Takes X W) (I3 : Inv X pins σ H3 s3) (cf : ce.frame = X.env.frame) (cL : ce.locals = s3.heap.objs.size)
    (f3 : ∀ b ∈ fp, FpOk X pins H3 b ∧ b < s3.heap.objs.size) (hR : ∀ e s', CompFails (model X.prog X.w) X.A X.xe ce e s' → R (.error e) s') :
    Out (blkX X s3 H3 scope ce fp R) (fun _ => WE W σ) := by
  intro σ' pins' H s e s' IY c
  have hfr : X.A.frames = some (X.env :: X.outer) := by rw [I3.ok.frames, hs]
  have JX : Inv X pins σ H s := I3.call' (ch := fp) IY.os IY.base IY.hok IY.bare fun b hb => ⟨(f3 b hb).1.2.2.2.1, (f3 b hb).1.2.1, (f3 b hb).1.2.2.2.2.1, (f3 b hb).1.2.2.2.2.2⟩
  -- the block's names: a dict that is not tracked
  obtain ⟨m, hn, _⟩ := IY.loc
  have hn : s.heap.Ns ce.locals m := hn
  have nC : H ce.locals = none := IY.free
  obtain ⟨n1, n2, n3, n4, n5, n6⟩ : FpOk X pins H ce.locals := by
    rw [cL] at nC ⊢
    exact I3.fpOk (Nat.le_refl _) nC
  have off : ce.locals ∉ frs X.stack := fun hm => by
    rw [hs] at hm
    obtain ⟨v, hv, q⟩ := List.mem_filterMap.mp hm
    rcases List.mem_cons.mp hv with rfl | hv
    · rw [hf] at q
      exact n2 (Option.some.inj q).symm
    · exact n3 (List.mem_filterMap.mpr ⟨v, hv, q⟩)
  generalize hC : ce.locals = C at hn nC n1 n2 n3 n4 n5 n6 off hR
  obtain ⟨oC, es, ep, hoC, hdC, rC⟩ := hn
  -- what the callee let out, in the def's own context
  obtain ⟨a0, B0, H0, cls0, d0, rfl, fl0, hok0, ub0, na0, os0, ag0, w0⟩ := c
  have hC' : s'.heap.get? C = some oC := fl0.1 _ _ (ub0.keep C oC hoC nC off)
  have xx : XE X (fun cls d σ1 H1 => W cls d σ1 H1 ∧ H1 C = none) (.ref a0) s' :=
    XE.of_call (E := fun cls d H1 => W cls d σ H1 ∧ H1 C = none) JX (fun _ _ _ h => h) ⟨a0, B0, H0, cls0, d0, rfl, fl0, hok0, ub0, na0, os0, ag0, w0, ub0.free C oC hoC nC⟩
  clear fl0 hok0 ub0 na0 os0 ag0 w0 JX IY
  obtain ⟨a, B, sI, pn, σ1, H1, cls, d, ea, J, low, up, sky, na, os, ag, w, nC1⟩ := xx
  rw [ea]
  clear ea
  have J0 : Inv X [] σ1 H1 sI := J.pins_of fun p hp => nomatch hp
  -- without the block's names
  obtain ⟨G, g1, g2⟩ := restrict sI.heap fun b => decide (b ≠ C)
  obtain ⟨B', b1, b2⟩ := restrict B fun b => decide (b ≠ C)
  have only : ∀ {h h' : Heap}, (∀ b, decide (b ≠ C) = true → h'.get? b = h.get? b) → (∀ b, decide (b ≠ C) = false → h'.get? b = none) → ∀ b o, h'.get? b = some o → b ≠ C ∧ h.get? b = some o := fun k1 k2 b o e => by
    by_cases z : b = C
    · rw [k2 b (by simp [z])] at e; cases e
    · rw [k1 b (by simp [z])] at e; exact ⟨z, e⟩
  have JG : Inv X [] σ1 H1 { sI with heap := G } := J0.turned (it := C) (t' := sI.toks) (fun b o hb e => by rw [g1 b (by simp [hb])]; exact e) nC1 n2 n4 n5 fun p hp => n6 p (List.mem_append_left _ (by simpa using hp))
  have none' : ∀ b, B.get? b = none → B'.get? b = none := fun b e => by
    cases q : B'.get? b with
    | none => rfl
    | some o => rw [(only b1 b2 b o q).2] at e; cases e
  show wpAny (model X.prog X.w) X.A (noteFrame (.ref a) ce) _ _ s'
  rw [noteFrame_frame cf]
  have fin : ∀ h1, HandSPX.HeldZ B (X.env :: X.outer) a (Zc cls d) X.env.locals h1 → s'.heap.UpToSlots h1 → R (.error (.ref a)) { s' with heap := h1 } := by
    rintro h1 ⟨k1, k2, k3, oe, vs, T, oT, ts, he, hz, hd, hv, hnT, hTe, hT, hdT, h3⟩ up1
    obtain ⟨sl, hC1⟩ := up1 C oC hC' fun vs z => by rw [hdC] at z; cases z
    refine hR _ _ ?_
    show ∃ m, h1.Ns ce.locals m ∧ ∀ h' m', h'.Ns ce.locals m' → Heap.SameBut ce.locals h1 h' → wpAny (model X.prog X.w) X.A (passOn "comprehension.variables-let-go" (.ref a) ce : Sem Value) (fun _ _ => False) X.xe { s' with heap := h' }
    rw [hC]
    refine ⟨m, ⟨_, es, ep, hC1, hdC, rC⟩, fun h' m' _ sb => ?_⟩
    have same : ∀ b, b ≠ C → h'.get? b = h1.get? b := fun b hb => sb.2 b hb
    have nF : ∀ {b : Addr} {o : Obj} {vs : Array Value}, h1.get? b = some o → o.data = .fields vs → b ≠ C := fun e dd z => by
      rw [z, hC1] at e
      cases e
      rw [show ({ oC with slots := sl } : Obj).data = oC.data from rfl, hdC] at dd
      cases dd
    have held : HandSPX.HeldZ B' (X.env :: X.outer) a (Zc cls d) X.env.locals h' := by
      refine ⟨fun b o e => ?_, none' a k2, frames_but none' same (by rw [← hs]; exact off) k3, oe, vs, T, oT, ts, (same a (nF he hd)).trans he, hz, hd, hv, none' T hnT, hTe, (same T (nF hT hdT)).trans hT, hdT, h3⟩
      obtain ⟨z, e⟩ := only b1 b2 b o e
      exact (same b z).trans (k1 b o e)
    have flies : wpAny (model X.prog X.w) X.A (do setFlight (.ref a) ce.frame; throw (.ref a) : Sem Value) (fun _ _ => False) X.xe { s' with heap := h' } := by
      rw [cf, hf]
      refine wpAny_bind (HandSPX.setFlight_onZ held fun h4 hh4 up4 => wpAny_throw (tk _ _ ?_))
      refine ⟨a, B', { sI with heap := G }, [], σ1, H1, cls, d, rfl, JG, fun b o e hb => ?_, fun b o e hnf => ?_, .inr (.inr (by rw [hs]; exact hh4)), na, os, ag, w⟩
      · obtain ⟨z, e⟩ := only g1 g2 b o e
        rw [b1 b (by simp [z])]
        exact low b o e hb
      · obtain ⟨z, e⟩ := only g1 g2 b o e
        obtain ⟨sl1, e1⟩ := (up.trans up1) b o e hnf
        obtain ⟨sl2, e2⟩ := up4 b _ ((same b z).trans e1) hnf
        exact ⟨sl2, e2⟩
    unfold PySem.passOn
    refine wpAny_bind (wpAny_field ((same a (nF he hd)).trans he) hd hv ?_)
    rw [if_neg (by simp)]
    first
      | exact flies
      | exact wpAny_bind (wpAny_pure flies)
  have sky : Sky B (X.env :: X.outer) a (Zc cls d) X.env.locals s'.heap := by rw [← hs]; exact sky
  rcases sky with ⟨y1, y2, y3, oe, vs, he, hz, hd, hv⟩ | fl | held
  · exact HandSPX.look_newZ Zc.steady hfr y3 hf he y1 y2 hd hv hz fin
  · exact HandSPX.looks_onZ Zc.steady hfr hf fl fin
  · exact HandSPX.againZ hf held.2.2.2 (fin s'.heap held (Heap.UpToSlots.refl _))
end
/-- [elt for target in iter if ..], the element may raise: E the wish of what is raised, at the slots ahead of the comprehension -/
def tLcX (wi : TI) (g : TG) (tt : TT) (te : XK → TE) (vs : List Nat) (E : St → XK) : TE := fun σ H Q => tLc wi g tt (te (E σ)) vs σ H Q
theorem g_lcX {wi : TI} {g : TG} {tt : TT} {te : XK → TE} {vs : List Nat} {E : St → XK} {σ : St} {H : Hp} {Q : VK} (q : tLc wi g tt (te (E σ)) vs σ H Q) : tLcX wi g tt te vs E σ H Q := q
/-- what a comprehension's parts are asked to be, whatever its block's place is -/
structure LcOk (X : Cx) (elt tg : Expr) (ifs : List Expr) (scope : Scope) (own : List (Str × Nat)) (g : TG) (tt : TT) (te : XK → TE) : Prop where
  ok : BlkOk X.N X.env.scope scope own
  tg : ∀ (s : Shared) (H : Hp) (C : Addr) (cl : List (Str × Addr)) (fp : List Addr), PG (X.blk s H scope (compEnvC scope cl C X.env) fp) tg g
  ifs : ∀ (s : Shared) (H : Hp) (C : Addr) (cl : List (Str × Addr)) (fp : List Addr), PTs (X.blk s H scope (compEnvC scope cl C X.env) fp) ifs tt
  elt : ∀ (s : Shared) (H : Hp) (C : Addr) (cl : List (Str × Addr)) (fp : List Addr) (R : Result → Shared → Prop) (E1 : XK), Out (blkX X s H scope (compEnvC scope cl C X.env) fp R) (fun _ => E1) → PE (blkX X s H scope (compEnvC scope cl C X.env) fp R) elt (te E1)
section
variable {X : Cx} {W : WX} {pins : List (Addr × Obj)} {σ : St} {H : Hp} {s : Shared} {Q : VK} {elt tg iter : Expr} {ifs : List Expr} {scope : Scope} {own : List (Str × Nat)} {pos pos' : Pos} {wi : TI} {g : TG} {tt : TT} {te : XK → TE} {use : Option (Value → Sem Unit)} {Qf : Value → Shared → Prop}
/-- the loop of the block, its list at D, its iterator at it -/
theorem lcX_loop {s3 s4 : Shared} {H3 : Hp} {ce : Env} {cl : List (Str × Addr)} {fp : List Addr} {it D : Addr} {tn : Nat → Heap → Prop} {J : It} {R : Result → Shared → Prop} {Wn : Nat → Nat → Hp → Prop} {m0 : Nat} {E1 : XK}
    (hc : X.calm = true) (L : LcOk X elt tg ifs scope own g tt te) (hce : ce = compEnvC scope cl s3.heap.objs.size X.env) (T : Turn X.prog X.w X.K tg J fp it tn) (out : Out (blkX X s3 H3 scope ce fp R) (fun _ => E1))
    (I4 : Inv (X.blk s3 H3 scope ce fp) [] (wipe σ (own.map (·.2))) H3 s4) (st4 : tn 0 s4.heap) (nfp : ∀ b ∈ fp, H3 b = none) (w0 : Wn 0 m0 H3)
    (turn : ∀ i m H, Wn i m H → (J.stop i H ∧ Q (.ref D) H) ∨ (J.go i H ∧ ∃ Nx : Hp → Prop, (∀ H', Nx H' → ∃ m', m' < m ∧ Wn (i + 1) m' H') ∧ ∀ x H', J.yld i H x H' → g x (wipe σ (own.map (·.2))) H' fun σ2 H2 => wipe σ2 (own.map (·.2)) = wipe σ (own.map (·.2)) ∧ tt σ2 H2 fun b H3 =>
      if b = true then te E1 σ2 H3 fun y H4 => ∃ acc, H4 D = some (.lst acc) ∧ acc.length < sizeLine ∧ Nx (upd H4 D (.lst (acc ++ [y]))) else Nx H3))
    (fin : ∀ (s6 : Shared) (H5 : Hp), Inv (X.blk s3 H3 scope ce fp) [] (wipe σ (own.map (·.2))) H5 s6 → Q (.ref D) H5 → R (.ok .next) s6) :
    codeAny (model X.prog X.w) X.A (.compLoop (.ListComp elt [⟨tg, iter, ifs, 0⟩] scope pos) 0 (.ref it) (.ref D) ce) R s4 := by
  have still : ∀ {σ' : St} {H' : Hp} {s' : Shared}, Inv (X.blk s3 H3 scope ce fp) [] σ' H' s' → (∀ b ∈ fp, H' b = none) → ∀ b ∈ fp, FpOk (X.blk s3 H3 scope ce fp) [] H' b := fun I' hn b hb =>
    ⟨hn b hb, (I'.ok.exf b hb).1, I'.ok.exfs b hb, .inl hb, fun x c e => (I'.ok.exf b hb).2 x c e, fun p hp => by cases hp⟩
  refine compLoop_any (fun n s' => ∃ i H', Inv (X.blk s3 H3 scope ce fp) [] (wipe σ (own.map (·.2))) H' s' ∧ tn i s'.heap ∧ (∀ b ∈ fp, H' b = none) ∧ Wn i n H') (fun n s5 h5 => ?_) m0 ⟨0, H3, I4, st4, nfp, w0⟩
  obtain ⟨i, H5, I5, st5, n5, w5⟩ := h5
  rcases turn i n H5 w5 with ⟨stop, qq⟩ | ⟨go, Nx, hNx, step⟩
  · refine thnF (T.done (X.blk s3 H3 scope ce fp) rfl rfl rfl hc i [] s5 _ H5 (fun _ _ => False) I5 (still I5 n5) st5 stop) fun r s6 h6 => ?_
    rw [h6.1]
    exact fin s6 H5 h6.2 qq
  refine thnF (T.item (X.blk s3 H3 scope ce fp) rfl rfl rfl hc i [] s5 _ H5 (fun _ _ => False) I5 (still I5 n5) st5 go) fun r s6 h6 => ?_
  obtain ⟨u, rfl, h6⟩ := h6
  refine thnF h6 fun _ s7 h7 => ?_
  obtain ⟨x, H7, I7, r7, y7, st7, n7⟩ := h7
  have objs := T.obj _ _ st7
  -- a turn that went on
  have next : ∀ {s' : Shared} {H' : Hp} {σ8 : St}, wipe σ8 (own.map (·.2)) = wipe σ (own.map (·.2)) → Inv (X.blk s3 H3 scope ce fp) ([] ++ pinsAt fp s7.heap) σ8 H' s' → Nx H' →
      ∃ m, m < n ∧ ∃ i H', Inv (X.blk s3 H3 scope ce fp) [] (wipe σ (own.map (·.2))) H' s' ∧ tn i s'.heap ∧ (∀ b ∈ fp, H' b = none) ∧ Wn i m H' := fun {s' H' σ8} hw I' nx => by
    obtain ⟨m', hm, w'⟩ := hNx H' nx
    have kept : ∀ b ∈ fp, ∀ o, s7.heap.get? b = some o → s'.heap.get? b = some o ∧ H' b = none := fun b hb o e => by
      have z := I'.pin (b, o) (List.mem_append_right _ (List.mem_append_right _ (mem_pinsAt hb e)))
      exact ⟨z.1, z.2.1⟩
    refine ⟨m', hm, i + 1, H', (I'.unpinned (pins := [])).weak (by rw [← hw, wipe_length]) (fun j v e => by rw [← hw] at e; exact (wipe_some e).1), T.keep _ _ _ st7 fun b hb o e => (kept b hb o e).1, fun b hb => ?_, w'⟩
    obtain ⟨o, e, _⟩ := objs b hb
    exact (kept b hb o e).2
  subst hce
  refine thnF ((L.tg s3 H3 _ cl fp).run _ s7 _ H7 x u _ (I7.pinned (still I7 n7) objs) r7 (step x H7 y7)) fun _ s8 h8 => ?_
  obtain ⟨σ8, H8, I8, hw, q8⟩ := h8
  refine thnF ((L.ifs s3 H3 _ cl fp).run _ s8 σ8 H8 _ I8 q8) fun b s9 h9 => ?_
  obtain ⟨H9, I9, q9⟩ := h9
  cases b with
  | false => exact next hw I9 q9
  | true =>
    refine thn ((L.elt s3 H3 _ cl fp R E1 out).run _ s9 σ8 H9 _ (I9.wish _) q9) fun z s10 h10 => ?_
    obtain ⟨yv, H10, I10, r10, acc, hD, hz, nx⟩ := h10
    exact app_ok (X := X.blk s3 H3 scope (compEnvC scope cl s3.heap.objs.size X.env) fp) (Inv.unwish (X := X.blk s3 H3 scope (compEnvC scope cl s3.heap.objs.size X.env) fp) I10) hD hz r10 fun s11 I11 => next hw I11 nx
theorem lcX_core (hc : X.calm = true) (hN : X.N.Nodup) (hs : X.stack = X.env :: X.outer) (hf : X.env.frame = some X.env.locals) (tk : Takes X W) (I : Inv X pins σ H s) (hi : PI X tg iter wi) (L : LcOk X elt tg ifs scope own g tt te)
    (hfs : ∀ x, foldedSetIterable iter X.env x = pure x) (h : tLc wi g tt (te (WE W σ)) (own.map (·.2)) σ H Q)
    (hEnd : ∀ (D C : Addr) (s' : Shared) (m : Str → Option Value) (H' : Hp) (cenv : Env), cenv.locals = C → Inv X pins σ H' s' → Q (.ref D) H' → s'.heap.Ns C m → FpOk X pins H' C → compEnds (model X.prog X.w) X.A X.xe use Qf (.ref D) cenv (.ok .next) s') :
    wpAny (model X.prog X.w) X.A (comprehension (.ListComp elt [⟨tg, iter, ifs, 0⟩] scope pos) scope X.env pos' (newList []) false (eval iter X.env) use) Qf X.xe s := by
  have cells : ∀ y ∈ scope.names, y.2 = .free → ∃ c, X.env.cells.lookup y.1 = some c := fun y hy e => (L.ok.free y hy e).elim (fun z => I.ok.has _ (.inl z)) fun z => I.ok.has _ (.inr z)
  refine comprehension_at (use := use) rfl hfs (closure_ok cells) L.ok.kind (fun y hy e => (L.ok.uniq y hy).trans (by rw [e])) (thn (hi.run pins s σ H _ I h) fun xv s1 h1 => thn h1 fun itv s2 h2 => ?_)
  obtain ⟨it, fp, tn, J, H2, rfl, I2, T, st2, f2, q⟩ := h2
  refine wpAny_newObj_type (newEnv_comp ?_) (by show 0 ≤ sizeLine; decide)
  obtain ⟨Wn, ⟨m0, w0⟩, turn⟩ := q s2.heap.objs.size (I2.hok.fresh (Nat.le_refl _))
  have I3 : Inv X pins σ (upd H2 s2.heap.objs.size (.lst [])) { s2 with heap := s2.heap.push { cls := .type "list", data := .seq ([] : List Value).toArray } } :=
    I2.laid (t' := s2.toks) (fun b o e => Heap.get?_push_of_some _ e) (Nat.le_refl _) ⟨Nat.zero_le _, [], 0, .nil, Heap.get?_push_size _ rfl⟩
  have old : ∀ b o, s2.heap.get? b = some o → ({ s2 with heap := s2.heap.push { cls := .type "list", data := .seq ([] : List Value).toArray } } : Shared).heap.get? b = some o := fun b o e => Heap.get?_push_of_some _ e
  have sz : ({ s2 with heap := s2.heap.push { cls := .type "list", data := .seq ([] : List Value).toArray } } : Shared).heap.objs.size = s2.heap.objs.size + 1 := Heap.size_push ..
  have f3 : ∀ b ∈ fp, FpOk X pins (upd H2 s2.heap.objs.size (.lst [])) b ∧ b < ({ s2 with heap := s2.heap.push { cls := .type "list", data := .seq ([] : List Value).toArray } } : Shared).heap.objs.size := fun b hb => by
    obtain ⟨o, e, _⟩ := T.obj _ _ st2 b hb
    have lt := Heap.lt_size e
    exact ⟨⟨by rw [upd_ne (Nat.ne_of_lt lt)]; exact (f2 b hb).1, (f2 b hb).2⟩, by rw [sz]; exact Nat.lt_succ_of_lt lt⟩
  have st3 := T.keep _ _ _ st2 fun b _ o e => old b o e
  generalize s2.heap.objs.size = D at I3 w0 turn f3 ⊢
  generalize upd H2 D (.lst []) = H3 at I3 w0 f3
  generalize ({ s2 with heap := s2.heap.push { cls := .type "list", data := .seq ([] : List Value).toArray } } : Shared) = s3 at I3 f3 st3 ⊢
  have I4 := block_start I3 L.ok hN f3
  have st4 : tn 0 (pushCells (s3.heap.push { cls := .type "dict", data := .dict #[] }) scope.names) := T.keep _ _ _ st3 fun b _ o e => pushCells_keeps _ _ _ _ (Heap.get?_push_of_some _ e)
  refine codeAny_compStart_list ?_ (T.self X.A 0 _ _ _ st4 ?_) <;>
  · refine lcX_loop (Wn := Wn) (m0 := m0) (E1 := WE W σ) (fp := fp) (s3 := s3) (Q := Q) hc L rfl T (blk_out hs hf tk I3 rfl rfl f3 fun e s' z => z) I4 st4 (fun b hb => (f3 b hb).1.1) w0 turn fun s6 H5 I6 qq => ?_
    have nC : H5 s3.heap.objs.size = none := I6.free
    obtain ⟨m, hn, _⟩ := I6.loc
    exact hEnd D s3.heap.objs.size s6 m H5 _ rfl (I3.call' (ch := fp) I6.os I6.base I6.hok I6.bare fun b hb => ⟨(f3 b hb).1.2.2.2.1, (f3 b hb).1.2.1, (f3 b hb).1.2.2.2.2.1, (f3 b hb).1.2.2.2.2.2⟩) qq hn (I3.fpOk (Nat.le_refl _) nC)
end
section
variable {X : Cx} {W : WX} {elt tg iter : Expr} {ifs : List Expr} {scope : Scope} {own : List (Str × Nat)} {pos : Pos} {wi : TI} {g : TG} {tt : TT} {te : XK → TE}
theorem pe_lcX (hc : X.calm = true) (hN : X.N.Nodup) (hs : X.stack = X.env :: X.outer) (hf : X.env.frame = some X.env.locals) (tk : Takes X W) (hi : PI X tg iter wi) (L : LcOk X elt tg ifs scope own g tt te) (hfs : ∀ x, foldedSetIterable iter X.env x = pure x := by intro _; rfl) :
    PE X (.ListComp elt [⟨tg, iter, ifs, 0⟩] scope pos) (tLcX wi g tt te (own.map (·.2)) (WE W)) := by
  constructor
  intro pins s σ H Q I h
  rw [eval_ListComp]
  refine lcX_core hc hN hs hf tk I hi L hfs h fun D C s' m H' cenv hC I' q hn f => ?_
  show ∃ m, s'.heap.Ns cenv.locals m ∧ ∀ h', Heap.SameBut cenv.locals s'.heap h' → EP X pins σ Q (.ref D) { s' with heap := h' }
  rw [hC]
  obtain ⟨f0, f1, _, f3, f4, f5⟩ := f
  exact ⟨m, hn, fun h' sb => ⟨.ref D, H', I'.turned (t' := s'.toks) (fun b o hb e => (sb.2 b hb).trans e) f0 f1 f3 f4 f5, rfl, q⟩⟩
theorem ps_setLcX {i : Nat} {y : Str} {py spos : Pos} (hc : X.calm = true) (hN : X.N.Nodup) (hy : X.N[i]? = some y) (hyl : X.env.scope.names.lookup y = some .local) (hsw : swapsWith (.ListComp elt [⟨tg, iter, ifs, 0⟩] scope pos) (some (.Name y py)) spos.line X.env = pure true)
    (hs : X.stack = X.env :: X.outer) (hf : X.env.frame = some X.env.locals) (tk : Takes X W) (hi : PI X tg iter wi) (L : LcOk X elt tg ifs scope own g tt te) (hfs : ∀ x, foldedSetIterable iter X.env x = pure x := by intro _; rfl) :
    PS X (.Assign [.Name y py] (.ListComp elt [⟨tg, iter, ifs, 0⟩] scope pos) spos) (tAsg (tLcX wi g tt te (own.map (·.2)) (WE W)) (gName i)) := by
  constructor
  intro pins s σ H D I h
  have h : tLc wi g tt (te (WE W σ)) (own.map (·.2)) σ H (fun x H1 => gName i x σ H1 D.nx) := h
  rw [exec_Assign_Name_used _ _ _ _ hsw]
  refine wpAny_bind (wpAny_standAt (wpAny_bind (wpAny_bind (thn (lcX_core (Qf := fun _ s' => SP X pins D .next s') hc hN hs hf tk I hi L hfs h fun l C s' m H' cenv hC I' q hn f => ?_) fun _ s' hq => wpAny_pure (wpAny_pure hq)))))
  show wpAny _ _ (assign (.Name y py) X.env (.ref l)) (fun _ s'' => ∃ m, s''.heap.Ns cenv.locals m ∧ ∀ h', Heap.SameBut cenv.locals s''.heap h' → SP X pins D .next { s'' with heap := h' }) _ _
  rw [hC]
  obtain ⟨f0, f1, _, f3, f4, f5⟩ := f
  refine wpAny_assign_Name (store_ok2 (v := V.ref l) I' hN hy (.inl hyl) rfl (fun s2 I2 ⟨a, sb, ha⟩ => ⟨m, hn.sameBut sb ?_, fun h3 sb3 => ⟨_, H', I2.turned (t' := s2.toks) (fun b o hb e => (sb3.2 b hb).trans e) f0 f1 f3 f4 f5, q⟩⟩) (.inr hyl))
  rcases ha with z | z
  · rw [z]; exact f1
  · exact fun e => f4 y a z e.symm
end
/-! Fo, make: an own class that has no __init__. -/
structure Mk0 (K : PySem.W.Frag) (C : Addr) : Prop where
  makes : PySem.W.makesIn K C = true
  init : PySem.W.findIn K (.ref C) "__init__" = some (some (.builtin "object.__init__"))
  top : PySem.W.mroIn K C (.type "object") = some true
  kp : PySem.W.keepIn K (.ref C) = true
theorem make_new0 {prog : Program} {w : World} {A : Around} {K : PySem.W.Frag} {C : Addr} {R : Result → Shared → Prop} {s : Shared} (M : Mk0 K C) (X : K.In s.heap)
    (X2 : K.In ((s.heap.push PySem.W.emptyDict).push (PySem.W.instObj C s.heap.objs.size)))
    (h : R (.ok (.ret (.ref (s.heap.objs.size + 1)))) { s with heap := (s.heap.push PySem.W.emptyDict).push (PySem.W.instObj C s.heap.objs.size) }) :
    codeAny (model prog w) A (.call (.ref C) ⟨[], []⟩) R s := by
  refine make_map0 X M.makes M.init (fun self => PySem.W.Looks.of_pure (PySem.W.oi_bind _)) ?_
  have ho : ((s.heap.push PySem.W.emptyDict).push (PySem.W.instObj C s.heap.objs.size)).get? (s.heap.objs.size + 1) = some (PySem.W.instObj C s.heap.objs.size) := by
    have z := Heap.get?_push_size (s.heap.push PySem.W.emptyDict) (o := PySem.W.instObj C s.heap.objs.size) rfl
    rwa [Heap.size_push] at z
  have t1 : PySem.W.Looks (model prog w) ((s.heap.push PySem.W.emptyDict).push (PySem.W.instObj C s.heap.objs.size)) (typeOf (.ref (s.heap.objs.size + 1))) (.ref C) := NwA.type_at ho rfl
  have t2 : PySem.W.Looks (model prog w) ((s.heap.push PySem.W.emptyDict).push (PySem.W.instObj C s.heap.objs.size)) (isInstance (.ref (s.heap.objs.size + 1)) (.type "object")) true := t1.andThen (PySem.W.looks_mroIn X2 M.top)
  obtain ⟨hh, g, d, t, os⟩ := s
  refine codeAny_call_builtin PySem.W.oi_plain PySem.W.entry_oi (@PySem.W.check_slot (model prog w) _ _ _ "object.__init__" "object" "__init__" _ [] [] _ PySem.W.oi_kind PySem.W.oi_split t2 (NwA.oi_args_any _ [] []) ?_)
  rw [PySem.W.oi_run]
  exact wpAny_pure (And.intro rfl h)
/-- C(): the new instance x, its dict dx -/
def tNew0 (C : Addr) : TE := fun _ H Q => ∀ x dx, H x = none → H dx = none → dx ≠ x → Q (.ref x) (upd (upd H dx (.own x)) x (.ins C dx []))
theorem g_new0 {C : Addr} {σ : St} {H : Hp} {Q : VK} (q : ∀ x dx, H x = none → H dx = none → dx ≠ x → Q (.ref x) (upd (upd H dx (.own x)) x (.ins C dx []))) : tNew0 C σ H Q := q
section
variable {X : Cx} {C : Addr} {x : Str} {p pos : Pos}
theorem pe_newO (M : Mk0 X.K C) (hm : X.mg x = some (.ref C)) (hg : Gl X x := by rfl) (hdb : (x == ("__debug__" : Str)) = false := by decide) : PE X (.Call (.Name x p) [] [] pos) (tNew0 C) := by
  refine ⟨fun pins s σ H Q I h => ?_⟩
  refine wpAny_Call_Name_kw (ld_glob I hg hm ?_ hdb)
  refine PySem.W.callWith_K0 I.kIn M.kp ?_
  have n1 := I.hok.fresh (Nat.le_succ s.heap.objs.size)
  have n2 := I.hok.fresh (Nat.le_refl s.heap.objs.size)
  have I2 := Inv.made (C := C) I
  exact wpAny_call (make_new0 M I.kIn I2.kIn ⟨V.ref (s.heap.objs.size + 1), _, I2, rfl, h _ _ n1 n2 (Nat.ne_of_lt (Nat.lt_succ_self _))⟩)
end
/-- a global that is a tuple -/
class HasTup (K : PySem.W.Frag) (x : Str) (vs : outParam (List V)) : Prop where h : ∀ H, SqT K H (He.ga K x) vs
/-! Fo, lists of ints kept as maps: slices, sums, displays -/
section
variable {K : PySem.W.Frag} {H : Hp} {Q : VK} {p q : Addr} {α : Type} {f : α → V} {ns ms : List α}
theorem g_slTo {k : Nat} (h : SqL K H p (ns.map f)) (r : ∀ l, H l = none → Q (.ref l) (upd H l (.lst ((ns.take k).map f)))) : rSlL K (.ref p) none (some (k : Int)) H Q :=
  g_slL h fun l hl => by rw [cutV_map, cutL_to]; exact r l hl
theorem g_slFrom {k : Nat} (h : SqL K H p (ns.map f)) (r : ∀ l, H l = none → Q (.ref l) (upd H l (.lst ((ns.drop k).map f)))) : rSlL K (.ref p) (some (k : Int)) none H Q :=
  g_slL h fun l hl => by rw [cutV_map, cutL_from]; exact r l hl
theorem g_slBut (h : SqL K H p (ns.map f)) (r : ∀ l, H l = none → Q (.ref l) (upd H l (.lst (ns.dropLast.map f)))) : rSlL K (.ref p) none (some (-1)) H Q :=
  g_slL h fun l hl => by rw [cutV_map, cutL_butlast]; exact r l hl
theorem g_slMid {i j : Nat} (h : SqL K H p (ns.map f)) (r : ∀ l, H l = none → Q (.ref l) (upd H l (.lst (((ns.drop i).take (j - i)).map f)))) : rSlL K (.ref p) (some (i : Int)) (some (j : Int)) H Q :=
  g_slL h fun l hl => by rw [cutV_map, cutL_both]; exact r l hl
theorem g_catM (h : H p = some (.lst (ns.map f))) (k : H q = some (.lst (ms.map f))) (hl : (ns.map f).length + (ms.map f).length ≤ sizeLine) (r : ∀ l, H l = none → Q (.ref l) (upd H l (.lst ((ns ++ ms).map f)))) : rPlus K (.ref p) (.ref q) H Q :=
  g_cat h k hl fun l nl => by rw [← List.map_append]; exact r l nl
theorem g_lst1 {a : Int} (r : ∀ l, H l = none → Q (.ref l) (upd H l (.lst (([a] : List Int).map V.int)))) : lstK [V.int a] H Q := g_lstK (by show 1 ≤ sizeLine; decide) r
theorem g_lst2 {a b : Int} (r : ∀ l, H l = none → Q (.ref l) (upd H l (.lst (([a, b] : List Int).map V.int)))) : lstK [V.int a, V.int b] H Q := g_lstK (by show 2 ≤ sizeLine; decide) r
theorem rep_flat (n : Nat) (b : Int) : (List.replicate n (([b] : List Int).map V.int)).flatten = (List.replicate n b).map V.int := by
  induction n with
  | zero => rfl
  | succ n ih => rw [List.replicate_succ, List.flatten_cons, ih, List.replicate_succ]; rfl
theorem g_rep1 {b i : Int} (h : H p = some (.lst (([b] : List Int).map V.int))) (hl : -(2 ^ 62) ≤ i ∧ i ≤ 1000000) (r : ∀ l, H l = none → Q (.ref l) (upd H l (.lst ((List.replicate i.toNat b).map V.int)))) : rTimes (.ref p) (.int i) H Q :=
  g_rep h (by omega) (by omega) (Nat.le_trans (m := 1000000) (by rw [List.length_map, List.length_singleton]; omega) (by decide)) fun l nl => by rw [rep_flat]; exact r l nl
theorem g_appI {z : Int} {ns : List Int} (h : H p = some (.lst (ns.map V.int))) (hl : (ns.map V.int).length + 1 ≤ sizeLine) (r : Q .non (upd H p (.lst ((ns ++ [z]).map V.int)))) : rAppend (.ref p) [.int z] H Q :=
  g_append h (by omega) (by rw [List.map_append] at r; exact r)
end
section
variable {K : PySem.W.Frag} {H : Hp} {Q : VK} {p : Addr} {x : V} {xs : List V} {b : Bool}
theorem g_amongT (h : SqT K H p xs) (fx : flatV x = true) (fs : xs.all flatV = true) (e : inV x xs = b) (q : Q (.bl b) H) : rAmong K x (.ref p) H Q := .inl ⟨p, xs, rfl, .inr h, fx, fs, by rw [e]; exact q⟩
theorem g_amongL (h : SqL K H p xs) (fx : flatV x = true) (fs : xs.all flatV = true) (e : inV x xs = b) (q : Q (.bl b) H) : rAmong K x (.ref p) H Q := .inl ⟨p, xs, rfl, .inl h, fx, fs, by rw [e]; exact q⟩
theorem g_notamongL (h : SqL K H p xs) (fx : flatV x = true) (fs : xs.all flatV = true) (e : inV x xs = b) (q : Q (.bl (!b)) H) : rNotAmong K x (.ref p) H Q := .inl ⟨p, xs, rfl, .inl h, fx, fs, by rw [e]; exact q⟩
theorem g_notamongT (h : SqT K H p xs) (fx : flatV x = true) (fs : xs.all flatV = true) (e : inV x xs = b) (q : Q (.bl (!b)) H) : rNotAmong K x (.ref p) H Q := .inl ⟨p, xs, rfl, .inr h, fx, fs, by rw [e]; exact q⟩
end
/-! Fo, end: from a law's promise to its statement. -/
theorem cx_any {P : Program} {w : World} {K : PySem.W.Frag} {mg : Str → Option Value} {base : Heap} {k : Nat} {f : Addr} {fd : FuncData} {ps : List Str} {sp : Sp} (F : FnOk P w K mg base (L2.CX P w) k f fd ps sp) :
    FnOk P w K mg base (fun o H s E u s' => ∃ (P : Program) (w : World), L2.CX P w o H s E u s') k f fd ps sp :=
  ⟨F.len, fun A outer s H args us vs Q E hr he hb hv hs => codeAny_mono (F.run A outer s H args us vs Q E hr he hb hv hs) fun r s' h => match r, h with
    | .ok (.ret u), h => h
    | .ok .next, h => h
    | .ok .brk, h => h
    | .ok .cont, h => h
    | .error e, h => ⟨P, w, h⟩⟩
theorem exn_ok {K : PySem.W.Frag} {h : Heap} {mg : Str → Option Value} {x : Str} (KX : K.In h) (G : h.Ns mainGlobals mg) (c : (He.Fa.glo x).ok K = true) (d : (He.Fa.exc x).ok K = true) : Exn K mg x (He.ga K x) := by
  obtain ⟨a, b, e, f⟩ := He.exc_ok d
  exact ⟨He.glo_ok KX G c, a, b, e, f⟩
theorem ok_of {P : Program} {w : World} {K : PySem.W.Frag} {mg : Str → Option Value} {base : Heap} {x qual : Str} {st : Stmt} {f : Addr} {fd : FuncData} {N ps : List Str} {k : Nat} {sp : Sp} {T : XK → TS} {dvs : List V} (F : FunD K x qual (defArgs st) (defBody st) (defScope st) dvs [] f fd) (S : FnScope N ps (defScope st))
    (len : ∀ vs H Q E, sp vs H Q E → vs.length = ps.length)
    (body : ∀ (cdv : Value) (A : Around) (outer : List Env) (s : Shared) (H : Hp) (E : XK), Room k (A.deeper (envOfC qual (defScope st) s.heap.objs.size f cdv)) → PSs (cxD P w K mg base N qual st f cdv A outer s H E) (defBody st) (T E))
    (read : ∀ vs H Q E, sp vs H Q E → T E { nx := fun _ H' => Q .non H', rt := Q } (start N vs) H) : FnOk P w K mg base (L2.CX P w) (k + 1) f fd ps sp :=
  F.ok S len fun cdv A outer s H vs Q E hr h => ⟨T E, body cdv A outer s H E hr, read vs H Q E h⟩
/-! ### further facts of the written part -/
inductive Xf where
  | ins (C : Str) | kit (C D : Str) (b : Bool) | kitT (C : Str) (n : String) (b : Bool) | kitB (n : String) (D : Str) (b : Bool) | tup (x : Str) (vs : List He.Dv) | exc (C : Str) | mk0 (C : Str)
def Xf.ok (K : PySem.W.Frag) : Xf → Bool
  | .ins C => He.eqO (PySem.W.findIn K (.ref (He.ga K C)) "__class__") (some (some (.builtin "object.__class__"))) && (He.eqO (PySem.W.specialIn K (.builtin "object.__class__") "__get__") (some (some (.builtin "getset_descriptor.__get__"))) &&
      (decide (PySem.W.takesIn K (.builtin "object.__class__") = some true) && decide (PySem.W.mroIn K (He.ga K C) (.type "object") = some true)))
  | .kit C D b => decide (PySem.W.kitOne K (.ref (He.ga K C)) (.ref (He.ga K D)) = some b)
  | .kitT C n b => decide (PySem.W.kitOne K (.ref (He.ga K C)) (.type n) = some b)
  | .kitB n D b => decide (PySem.W.kitOne K (.type n) (.ref (He.ga K D)) = some b)
  | .tup x vs => He.tupB K x vs
  | .mk0 C => PySem.W.makesIn K (He.ga K C) && (He.eqO (PySem.W.findIn K (.ref (He.ga K C)) "__init__") (some (some (.builtin "object.__init__"))) && (decide (PySem.W.mroIn K (He.ga K C) (.type "object") = some true) && PySem.W.keepIn K (.ref (He.ga K C))))
  | .exc C => He.eqO (PySem.W.findIn K (.ref (He.ga K C)) "__getattribute__") (some (some (.builtin "BaseException.__getattribute__"))) && (He.eqO (PySem.W.findIn K (.ref (He.ga K C)) "__getattr__") (some none) &&
      (decide (PySem.W.subIn K (.ref (He.ga K C)) (.type "BaseException") = some true) && (PySem.W.hasDictIn K (He.ga K C) && (He.eqO (PySem.W.findIn K (.ref (He.ga K C)) "__class__") (some (some (.builtin "object.__class__"))) &&
      (He.eqO (PySem.W.specialIn K (.builtin "object.__class__") "__get__") (some (some (.builtin "getset_descriptor.__get__"))) && (decide (PySem.W.takesIn K (.builtin "object.__class__") = some true) && decide (PySem.W.mroIn K (He.ga K C) (.type "object") = some true)))))))
abbrev AlX : Type := Bool × He.AlD
def obsX (fa : List He.Fa) (fn : List He.DefD) (xf : List Xf) (K : PySem.W.Frag) : AlX := (xf.all fun f => f.ok K, He.obsD fa fn K)
structure SaysX (fa : List He.Fa) (fn : List He.DefD) (xf : List Xf) (K : PySem.W.Frag) : Prop where
  d : He.SaysD fa fn K
  x : (xf.all fun f => f.ok K) = true
/-! ### what the module's names reach, each once; seen is a row of bits -/
def seeX (acc : List Addr × List Addr × Nat) (b : Addr) : List Addr × List Addr × Nat :=
  if Nat.beq (Nat.land (Nat.shiftRight acc.2.2 b) 1) 0 then (b :: acc.1, b :: acc.2.1, Nat.lor acc.2.2 (Nat.shiftLeft 1 b)) else acc
def growX (g : Addr → Option Obj) (st : List Addr × List Addr × Nat) : List Addr × List Addr × Nat :=
  st.1.foldl (fun acc a => match g a with
    | some o => (He.refsD o).foldl seeX acc
    | none => acc) ([], st.2.1, st.2.2)
def stX (g : Addr → Option Obj) : Nat → List Addr × List Addr × Nat
  | 0 => ([mainGlobals], [mainGlobals], Nat.shiftLeft 1 mainGlobals)
  | n + 1 => growX g (stX g n)
def asX (g : Addr → Option Obj) (n : Nat) : List Addr := (stX g n).2.1.reverse
def obsXG (n : Nat) (fa : List He.Fa) (fn : List He.DefD) (xf : List Xf) (g : Addr → Option Obj) : AlX := obsX fa fn xf (He.frG g (asX g n))
def hookX (n : Nat) (fa : List He.Fa) (fn : List He.DefD) (xf : List Xf) : PySem.W.Hook where
  α := AlX
  obs := fun s => obsXG n fa fn xf s.heap.get?
  val := fun _ => (true, He.valD fn)
  says := fun _ h => ∃ K : PySem.W.Frag, K.In h ∧ SaysX fa fn xf K
  of := fun _ s e => ⟨He.frG s.heap.get? (asX s.heap.get? n), He.frG_in, ⟨congrArg (fun z : AlX => z.2) e, congrArg (fun z : AlX => z.1) e⟩⟩
  keeps := fun _ _ _ ⟨K, hK, c⟩ k => ⟨K, PySem.W.Frag.In.keeps hK k, c⟩
theorem obsXG_eq {n : Nat} {fa : List He.Fa} {fn : List He.DefD} {xf : List Xf} {g : Addr → Option Obj} {s : Shared} (h : ∀ a, g a = s.heap.get? a) : obsXG n fa fn xf g = (hookX n fa fn xf).obs s := by
  have e : g = s.heap.get? := funext h
  rw [e] <;> rfl
section
variable {fa : List He.Fa} {fn : List He.DefD} {xf : List Xf} {K : PySem.W.Frag}
theorem SaysX.fact (c : SaysX fa fn xf K) (i : Nat) {f : He.Fa} (h : fa[i]? = some f := by rfl) : f.ok K = true := c.d.fact i h
theorem SaysX.def_ (c : SaysX fa fn xf K) (i : Nat) {d : He.DefD} (h : fn[i]? = some d := by rfl) : ∃ fd, FunD K d.name d.qual d.params d.body d.scope (d.dvs K) (d.kws K) (He.fAd K d.at_) fd := c.d.def_ i h
theorem SaysX.ext (c : SaysX fa fn xf K) (i : Nat) {f : Xf} (h : xf[i]? = some f := by rfl) : f.ok K = true := List.all_eq_true.mp c.x f (List.mem_of_getElem? h)
end
theorem ins_ok {K : PySem.W.Frag} {C : Str} (c : (Xf.ins C).ok K = true) : HasIns K C := by
  obtain ⟨c1, c⟩ := He.ba c
  obtain ⟨c2, c⟩ := He.ba c
  obtain ⟨c3, c4⟩ := He.ba c
  exact ⟨He.eqO_ok c1, He.eqO_ok c2, of_decide_eq_true c3, of_decide_eq_true c4⟩
theorem kit_ok {K : PySem.W.Frag} {C D : Str} {b : Bool} (c : (Xf.kit C D b).ok K = true) : HasKit K C D b := ⟨of_decide_eq_true c⟩
theorem hexc_ok {K : PySem.W.Frag} {C : Str} (c : (Xf.exc C).ok K = true) : HasExc K C := by
  obtain ⟨c1, c⟩ := He.ba c
  obtain ⟨c2, c⟩ := He.ba c
  obtain ⟨c3, c⟩ := He.ba c
  obtain ⟨c4, c⟩ := He.ba c
  obtain ⟨c5, c⟩ := He.ba c
  obtain ⟨c6, c⟩ := He.ba c
  obtain ⟨c7, c8⟩ := He.ba c
  exact ⟨⟨He.eqO_ok c1, He.eqO_ok c2, of_decide_eq_true c3, c4, He.eqO_ok c5, He.eqO_ok c6, of_decide_eq_true c7, of_decide_eq_true c8⟩⟩
theorem kitT_ok {K : PySem.W.Frag} {C : Str} {t : String} {b : Bool} (c : (Xf.kitT C t b).ok K = true) : HasKitT K C t b := ⟨of_decide_eq_true c⟩
theorem hexm_ok {K : PySem.W.Frag} {C D : Str} {b : Bool} (c : (He.Fa.exm C D b).ok K = true) : HasExm K C D b := ⟨He.exm_ok c⟩
theorem mk0_ok {K : PySem.W.Frag} {C : Str} (c : (Xf.mk0 C).ok K = true) : Mk0 K (He.ga K C) := by
  obtain ⟨c1, c⟩ := He.ba c
  obtain ⟨c2, c⟩ := He.ba c
  obtain ⟨c3, c4⟩ := He.ba c
  exact ⟨c1, He.eqO_ok c2, of_decide_eq_true c3, c4⟩
theorem tup_ok {K : PySem.W.Frag} {x : Str} {vs : List He.Dv} (c : (Xf.tup x vs).ok K = true) : HasTup K x (vs.map (He.Dv.v K)) := ⟨fun H => He.tupB_ok c H⟩
end Fo
namespace Fo
open PySem PySem.Spec PyProof.Rows L2
abbrev W_ : PySem.W.OpenLaw := PySem.Challenge.rw_foretell_k41_learned_of
def top (i : Nat) : Stmt := PySem.Challenge.pw_foretell_k41_learned_of.main.body.getD i (.Pass ⟨0, 0, 0, 0⟩)
abbrev s_is_whole : Stmt := top 21
abbrev N_is_whole : List Str := ["thing"]
theorem sc_is_whole : FnScope N_is_whole ["thing"] (defScope s_is_whole) := ⟨rfl, rfl, rfl, by decide +kernel, rfl, by decide +kernel, by decide +kernel⟩
abbrev s_is_bit : Stmt := top 22
abbrev N_is_bit : List Str := ["thing"]
theorem sc_is_bit : FnScope N_is_bit ["thing"] (defScope s_is_bit) := ⟨rfl, rfl, rfl, by decide +kernel, rfl, by decide +kernel, by decide +kernel⟩
abbrev s_is_chance : Stmt := top 23
abbrev N_is_chance : List Str := ["thing"]
theorem sc_is_chance : FnScope N_is_chance ["thing"] (defScope s_is_chance) := ⟨rfl, rfl, rfl, by decide +kernel, rfl, by decide +kernel, by decide +kernel⟩
abbrev s_is_sign : Stmt := top 24
abbrev N_is_sign : List Str := ["thing"]
theorem sc_is_sign : FnScope N_is_sign ["thing"] (defScope s_is_sign) := ⟨rfl, rfl, rfl, by decide +kernel, rfl, by decide +kernel, by decide +kernel⟩
abbrev s_are_signs : Stmt := top 25
abbrev N_are_signs : List Str := ["thing", "most", "sign"]
theorem sc_are_signs : FnScope N_are_signs ["thing", "most"] (defScope s_are_signs) := ⟨rfl, rfl, rfl, by decide +kernel, rfl, by decide +kernel, by decide +kernel⟩
abbrev s_checked_text : Stmt := top 26
abbrev N_checked_text : List Str := ["thing"]
theorem sc_checked_text : FnScope N_checked_text ["thing"] (defScope s_checked_text) := ⟨rfl, rfl, rfl, by decide +kernel, rfl, by decide +kernel, by decide +kernel⟩
abbrev s_checked_bytes : Stmt := top 27
abbrev N_checked_bytes : List Str := ["thing"]
theorem sc_checked_bytes : FnScope N_checked_bytes ["thing"] (defScope s_checked_bytes) := ⟨rfl, rfl, rfl, by decide +kernel, rfl, by decide +kernel, by decide +kernel⟩
abbrev s_checked_bit : Stmt := top 28
abbrev N_checked_bit : List Str := ["thing"]
theorem sc_checked_bit : FnScope N_checked_bit ["thing"] (defScope s_checked_bit) := ⟨rfl, rfl, rfl, by decide +kernel, rfl, by decide +kernel, by decide +kernel⟩
abbrev s_checked_chance : Stmt := top 29
abbrev N_checked_chance : List Str := ["thing"]
theorem sc_checked_chance : FnScope N_checked_chance ["thing"] (defScope s_checked_chance) := ⟨rfl, rfl, rfl, by decide +kernel, rfl, by decide +kernel, by decide +kernel⟩
abbrev s_checked_most : Stmt := top 30
abbrev N_checked_most : List Str := ["thing"]
theorem sc_checked_most : FnScope N_checked_most ["thing"] (defScope s_checked_most) := ⟨rfl, rfl, rfl, by decide +kernel, rfl, by decide +kernel, by decide +kernel⟩
abbrev s_gives : Stmt := top 31
abbrev N_gives : List Str := ["chance", "bit", "c"]
theorem sc_gives : FnScope N_gives ["chance", "bit"] (defScope s_gives) := ⟨rfl, rfl, rfl, by decide +kernel, rfl, by decide +kernel, by decide +kernel⟩
abbrev s_Even_init : Stmt := inClass (top 35) 0
abbrev N_Even_init : List Str := ["self"]
theorem sc_Even_init : FnScope N_Even_init ["self"] (defScope s_Even_init) := ⟨rfl, rfl, rfl, by decide +kernel, rfl, by decide +kernel, by decide +kernel⟩
abbrev s_Even_chance : Stmt := inClass (top 35) 1
abbrev N_Even_chance : List Str := ["self"]
theorem sc_Even_chance : FnScope N_Even_chance ["self"] (defScope s_Even_chance) := ⟨rfl, rfl, rfl, by decide +kernel, rfl, by decide +kernel, by decide +kernel⟩
abbrev s_Even_seen : Stmt := inClass (top 35) 2
abbrev N_Even_seen : List Str := ["self", "bit"]
theorem sc_Even_seen : FnScope N_Even_seen ["self", "bit"] (defScope s_Even_seen) := ⟨rfl, rfl, rfl, by decide +kernel, rfl, by decide +kernel, by decide +kernel⟩
abbrev s_Quick_init : Stmt := inClass (top 36) 0
abbrev N_Quick_init : List Str := ["self"]
theorem sc_Quick_init : FnScope N_Quick_init ["self"] (defScope s_Quick_init) := ⟨rfl, rfl, rfl, by decide +kernel, rfl, by decide +kernel, by decide +kernel⟩
abbrev s_Quick_chance : Stmt := inClass (top 36) 1
abbrev N_Quick_chance : List Str := ["self"]
theorem sc_Quick_chance : FnScope N_Quick_chance ["self"] (defScope s_Quick_chance) := ⟨rfl, rfl, rfl, by decide +kernel, rfl, by decide +kernel, by decide +kernel⟩
abbrev s_Quick_seen : Stmt := inClass (top 36) 2
abbrev N_Quick_seen : List Str := ["self", "bit"]
theorem sc_Quick_seen : FnScope N_Quick_seen ["self", "bit"] (defScope s_Quick_seen) := ⟨rfl, rfl, rfl, by decide +kernel, rfl, by decide +kernel, by decide +kernel⟩
abbrev s_Run_init : Stmt := inClass (top 37) 0
abbrev N_Run_init : List Str := ["self"]
theorem sc_Run_init : FnScope N_Run_init ["self"] (defScope s_Run_init) := ⟨rfl, rfl, rfl, by decide +kernel, rfl, by decide +kernel, by decide +kernel⟩
abbrev s_Run_chance : Stmt := inClass (top 37) 1
abbrev N_Run_chance : List Str := ["self", "same"]
theorem sc_Run_chance : FnScope N_Run_chance ["self"] (defScope s_Run_chance) := ⟨rfl, rfl, rfl, by decide +kernel, rfl, by decide +kernel, by decide +kernel⟩
abbrev s_Run_seen : Stmt := inClass (top 37) 2
abbrev N_Run_seen : List Str := ["self", "bit"]
theorem sc_Run_seen : FnScope N_Run_seen ["self", "bit"] (defScope s_Run_seen) := ⟨rfl, rfl, rfl, by decide +kernel, rfl, by decide +kernel, by decide +kernel⟩
abbrev s_slot_of : Stmt := top 38
abbrev N_slot_of : List Str := ["kind"]
theorem sc_slot_of : FnScope N_slot_of ["kind"] (defScope s_slot_of) := ⟨rfl, rfl, rfl, by decide +kernel, rfl, by decide +kernel, by decide +kernel⟩
abbrev s_are_places : Stmt := top 45
abbrev N_are_places : List Str := ["thing", "last", "place"]
theorem sc_are_places : FnScope N_are_places ["thing"] (defScope s_are_places) := ⟨rfl, rfl, rfl, by decide +kernel, rfl, by decide +kernel, by decide +kernel⟩
abbrev s_is_look : Stmt := top 46
abbrev N_is_look : List Str := ["thing"]
theorem sc_is_look : FnScope N_is_look ["thing"] (defScope s_is_look) := ⟨rfl, rfl, rfl, by decide +kernel, rfl, by decide +kernel, by decide +kernel⟩
abbrev s_checked_looks : Stmt := top 47
abbrev N_checked_looks : List Str := ["thing", "look"]
theorem sc_checked_looks : FnScope N_checked_looks ["thing"] (defScope s_checked_looks) := ⟨rfl, rfl, rfl, by decide +kernel, rfl, by decide +kernel, by decide +kernel⟩
abbrev s_context_of : Stmt := top 48
abbrev N_context_of : List Str := ["look", "signs", "node", "found", "place"]
theorem sc_context_of : FnScope N_context_of ["look", "signs", "node"] (defScope s_context_of) := ⟨rfl, rfl, rfl, by decide +kernel, rfl, by decide +kernel, by decide +kernel⟩
abbrev s_Book_init : Stmt := inClass (top 49) 0
abbrev N_Book_init : List Str := ["self", "look"]
theorem sc_Book_init : FnScope N_Book_init ["self", "look"] (defScope s_Book_init) := ⟨rfl, rfl, rfl, by decide +kernel, rfl, by decide +kernel, by decide +kernel⟩
abbrev s_Book_chance : Stmt := inClass (top 49) 1
abbrev N_Book_chance : List Str := ["self", "signs", "node", "context"]
theorem sc_Book_chance : FnScope N_Book_chance ["self", "signs", "node"] (defScope s_Book_chance) := ⟨rfl, rfl, rfl, by decide +kernel, rfl, by decide +kernel, by decide +kernel⟩
abbrev s_Book_seen : Stmt := inClass (top 49) 2
abbrev N_Book_seen : List Str := ["self", "signs", "node", "bit", "context"]
theorem sc_Book_seen : FnScope N_Book_seen ["self", "signs", "node", "bit"] (defScope s_Book_seen) := ⟨rfl, rfl, rfl, by decide +kernel, rfl, by decide +kernel, by decide +kernel⟩
abbrev s_Mixer_init : Stmt := inClass (top 54) 0
abbrev N_Mixer_init : List Str := ["self", "many"]
theorem sc_Mixer_init : FnScope N_Mixer_init ["self", "many"] (defScope s_Mixer_init) := ⟨rfl, rfl, rfl, by decide +kernel, rfl, by decide +kernel, by decide +kernel⟩
abbrev s_Mixer_mixed : Stmt := inClass (top 54) 2
abbrev N_Mixer_mixed : List Str := ["self", "chances", "total", "weight", "chance"]
theorem sc_Mixer_mixed : FnScope N_Mixer_mixed ["self", "chances"] (defScope s_Mixer_mixed) := ⟨rfl, rfl, rfl, by decide +kernel, rfl, by decide +kernel, by decide +kernel⟩
abbrev s_Mixer_learn : Stmt := inClass (top 54) 3
abbrev N_Mixer_learn : List Str := ["self", "chances", "bit", "b", "parts", "whole", "many", "grown", "over", "weight", "chance", "part", "one"]
theorem sc_Mixer_learn : FnScope N_Mixer_learn ["self", "chances", "bit"] (defScope s_Mixer_learn) := ⟨rfl, rfl, rfl, by decide +kernel, rfl, by decide +kernel, by decide +kernel⟩
abbrev s_Foreteller_init : Stmt := inClass (top 56) 0
abbrev N_Foreteller_init : List Str := ["self", "looks", "look"]
theorem sc_Foreteller_init : FnScope N_Foreteller_init ["self", "looks"] (defScope s_Foreteller_init) := ⟨rfl, rfl, rfl, by decide +kernel, rfl, by decide +kernel, by decide +kernel⟩
abbrev s_Foreteller_chances : Stmt := inClass (top 56) 1
abbrev N_Foreteller_chances : List Str := ["self", "book"]
theorem sc_Foreteller_chances : FnScope N_Foreteller_chances ["self"] (defScope s_Foreteller_chances) := ⟨rfl, rfl, rfl, by decide +kernel, rfl, by decide +kernel, by decide +kernel⟩
abbrev s_Foreteller_chance : Stmt := inClass (top 56) 2
abbrev N_Foreteller_chance : List Str := ["self"]
theorem sc_Foreteller_chance : FnScope N_Foreteller_chance ["self"] (defScope s_Foreteller_chance) := ⟨rfl, rfl, rfl, by decide +kernel, rfl, by decide +kernel, by decide +kernel⟩
abbrev s_Foreteller_node : Stmt := inClass (top 56) 4
abbrev N_Foreteller_node : List Str := ["self"]
theorem sc_Foreteller_node : FnScope N_Foreteller_node ["self"] (defScope s_Foreteller_node) := ⟨rfl, rfl, rfl, by decide +kernel, rfl, by decide +kernel, by decide +kernel⟩
abbrev s_Foreteller_signs : Stmt := inClass (top 56) 5
abbrev N_Foreteller_signs : List Str := ["self"]
theorem sc_Foreteller_signs : FnScope N_Foreteller_signs ["self"] (defScope s_Foreteller_signs) := ⟨rfl, rfl, rfl, by decide +kernel, rfl, by decide +kernel, by decide +kernel⟩
abbrev s_Foreteller_see : Stmt := inClass (top 56) 6
abbrev N_Foreteller_see : List Str := ["self", "bit", "b", "chances", "book"]
theorem sc_Foreteller_see : FnScope N_Foreteller_see ["self", "bit"] (defScope s_Foreteller_see) := ⟨rfl, rfl, rfl, by decide +kernel, rfl, by decide +kernel, by decide +kernel⟩
abbrev s_Foreteller_go : Stmt := inClass (top 56) 7
abbrev N_Foreteller_go : List Str := ["self", "bit"]
theorem sc_Foreteller_go : FnScope N_Foreteller_go ["self", "bit"] (defScope s_Foreteller_go) := ⟨rfl, rfl, rfl, by decide +kernel, rfl, by decide +kernel, by decide +kernel⟩
abbrev s_bits_of : Stmt := top 58
abbrev N_bits_of : List Str := ["sign", "k"]
theorem sc_bits_of : FnScope N_bits_of ["sign"] (defScope s_bits_of) := ⟨rfl, rfl, rfl, by decide +kernel, rfl, by decide +kernel, by decide +kernel⟩
abbrev s_decisions_of : Stmt := top 59
abbrev N_decisions_of : List Str := ["text", "bits", "sign"]
theorem sc_decisions_of : FnScope N_decisions_of ["text"] (defScope s_decisions_of) := ⟨rfl, rfl, rfl, by decide +kernel, rfl, by decide +kernel, by decide +kernel⟩
abbrev s_bytes_of_number : Stmt := top 63
abbrev N_bytes_of_number : List Str := ["number", "size", "told", "k"]
theorem sc_bytes_of_number : FnScope N_bytes_of_number ["number", "size"] (defScope s_bytes_of_number) := ⟨rfl, rfl, rfl, by decide +kernel, rfl, by decide +kernel, by decide +kernel⟩
abbrev s_Span_init : Stmt := inClass (top 64) 0
abbrev N_Span_init : List Str := ["self"]
theorem sc_Span_init : FnScope N_Span_init ["self"] (defScope s_Span_init) := ⟨rfl, rfl, rfl, by decide +kernel, rfl, by decide +kernel, by decide +kernel⟩
abbrev s_Span_ends : Stmt := inClass (top 64) 1
abbrev N_Span_ends : List Str := ["self"]
theorem sc_Span_ends : FnScope N_Span_ends ["self"] (defScope s_Span_ends) := ⟨rfl, rfl, rfl, by decide +kernel, rfl, by decide +kernel, by decide +kernel⟩
abbrev s_Span_narrow : Stmt := inClass (top 64) 2
abbrev N_Span_narrow : List Str := ["self", "chance", "bit", "c", "b", "cut"]
theorem sc_Span_narrow : FnScope N_Span_narrow ["self", "chance", "bit"] (defScope s_Span_narrow) := ⟨rfl, rfl, rfl, by decide +kernel, rfl, by decide +kernel, by decide +kernel⟩
abbrev s_Span_told : Stmt := inClass (top 64) 4
abbrev N_Span_told : List Str := ["self", "behind", "block", "first"]
theorem sc_Span_told : FnScope N_Span_told ["self"] (defScope s_Span_told) := ⟨rfl, rfl, rfl, by decide +kernel, rfl, by decide +kernel, by decide +kernel⟩
abbrev s_Seeker_init : Stmt := inClass (top 66) 0
abbrev N_Seeker_init : List Str := ["self", "data"]
theorem sc_Seeker_init : FnScope N_Seeker_init ["self", "data"] (defScope s_Seeker_init) := ⟨rfl, rfl, rfl, by decide +kernel, rfl, by decide +kernel, by decide +kernel⟩
abbrev s_Seeker_take : Stmt := inClass (top 66) 1
abbrev N_Seeker_take : List Str := ["self", "size", "byte"]
theorem sc_Seeker_take : FnScope N_Seeker_take ["self"] (defScope s_Seeker_take) := ⟨rfl, rfl, rfl, by decide +kernel, rfl, by decide +kernel, by decide +kernel⟩
abbrev s_Seeker_bit : Stmt := inClass (top 66) 2
abbrev N_Seeker_bit : List Str := ["self", "chance", "c", "low", "width", "size", "found"]
theorem sc_Seeker_bit : FnScope N_Seeker_bit ["self", "chance"] (defScope s_Seeker_bit) := ⟨rfl, rfl, rfl, by decide +kernel, rfl, by decide +kernel, by decide +kernel⟩
abbrev s_Seeker_told : Stmt := inClass (top 66) 4
abbrev N_Seeker_told : List Str := ["self"]
theorem sc_Seeker_told : FnScope N_Seeker_told ["self"] (defScope s_Seeker_told) := ⟨rfl, rfl, rfl, by decide +kernel, rfl, by decide +kernel, by decide +kernel⟩
abbrev s_press_by : Stmt := top 68
abbrev N_press_by : List Str := ["hand", "text", "span", "bit"]
theorem sc_press_by : FnScope N_press_by ["hand", "text"] (defScope s_press_by) := ⟨rfl, rfl, rfl, by decide +kernel, rfl, by decide +kernel, by decide +kernel⟩
abbrev s_read_by : Stmt := top 69
abbrev N_read_by : List Str := ["hand", "data", "most", "seeker", "text", "ahead", "bit", "own"]
theorem sc_read_by : FnScope N_read_by ["hand", "data", "most"] (defScope s_read_by) := ⟨rfl, rfl, rfl, by decide +kernel, rfl, by decide +kernel, by decide +kernel⟩
abbrev s_checked_name : Stmt := top 73
abbrev N_checked_name : List Str := ["thing", "letter"]
theorem sc_checked_name : FnScope N_checked_name ["thing"] (defScope s_checked_name) := ⟨rfl, rfl, rfl, by decide +kernel, rfl, by decide +kernel, by decide +kernel⟩
abbrev s_Store_init : Stmt := inClass (top 74) 0
abbrev N_Store_init : List Str := ["self", "looks", "most"]
theorem sc_Store_init : FnScope N_Store_init ["self", "looks", "most"] (defScope s_Store_init) := ⟨rfl, rfl, rfl, by decide +kernel, rfl, by decide +kernel, by decide +kernel⟩
abbrev s_Store_sought_piece : Stmt := inClass (top 74) 4
abbrev N_Store_sought_piece : List Str := ["self", "name"]
theorem sc_Store_sought_piece : FnScope N_Store_sought_piece ["self", "name"] (defScope s_Store_sought_piece) := ⟨rfl, rfl, rfl, by decide +kernel, rfl, by decide +kernel, by decide +kernel⟩
abbrev s_Store_chain : Stmt := inClass (top 74) 5
abbrev N_Store_chain : List Str := ["self", "base", "row"]
theorem sc_Store_chain : FnScope N_Store_chain ["self", "base"] (defScope s_Store_chain) := ⟨rfl, rfl, rfl, by decide +kernel, rfl, by decide +kernel, by decide +kernel⟩
abbrev s_Store_read_chain : Stmt := inClass (top 74) 6
abbrev N_Store_read_chain : List Str := ["self", "base", "hand", "texts", "name", "text", "own"]
theorem sc_Store_read_chain : FnScope N_Store_read_chain ["self", "base"] (defScope s_Store_read_chain) := ⟨rfl, rfl, rfl, by decide +kernel, rfl, by decide +kernel, by decide +kernel⟩
abbrev s_Store_fitting : Stmt := inClass (top 74) 7
abbrev N_Store_fitting : List Str := ["self", "text", "signs"]
theorem sc_Store_fitting : FnScope N_Store_fitting ["self", "text"] (defScope s_Store_fitting) := ⟨rfl, rfl, rfl, by decide +kernel, rfl, by decide +kernel, by decide +kernel⟩
abbrev s_Store_put : Stmt := inClass (top 74) 8
abbrev N_Store_put : List Str := ["self", "name", "text", "base", "signs"]
theorem sc_Store_put : FnScope N_Store_put ["self", "name", "text", "base"] (defScope s_Store_put) := ⟨rfl, rfl, rfl, by decide +kernel, rfl, by decide +kernel, by decide +kernel⟩
abbrev s_Store_text_of : Stmt := inClass (top 74) 9
abbrev N_Store_text_of : List Str := ["self", "name"]
theorem sc_Store_text_of : FnScope N_Store_text_of ["self", "name"] (defScope s_Store_text_of) := ⟨rfl, rfl, rfl, by decide +kernel, rfl, by decide +kernel, by decide +kernel⟩
abbrev s_Store_base_of : Stmt := inClass (top 74) 11
abbrev N_Store_base_of : List Str := ["self", "name"]
theorem sc_Store_base_of : FnScope N_Store_base_of ["self", "name"] (defScope s_Store_base_of) := ⟨rfl, rfl, rfl, by decide +kernel, rfl, by decide +kernel, by decide +kernel⟩
abbrev s_Store_learned_of : Stmt := inClass (top 74) 12
abbrev N_Store_learned_of : List Str := ["self", "name"]
theorem sc_Store_learned_of : FnScope N_Store_learned_of ["self", "name"] (defScope s_Store_learned_of) := ⟨rfl, rfl, rfl, by decide +kernel, rfl, by decide +kernel, by decide +kernel⟩
abbrev s_Store_drop : Stmt := inClass (top 74) 13
abbrev N_Store_drop : List Str := ["self", "name", "base", "data"]
theorem sc_Store_drop : FnScope N_Store_drop ["self", "name"] (defScope s_Store_drop) := ⟨rfl, rfl, rfl, by decide +kernel, rfl, by decide +kernel, by decide +kernel⟩
abbrev s_Lmixed : Stmt := top 76
abbrev N_Lmixed : List Str := ["_law_script", "_law_k", "_law_cell"]
theorem sc_Lmixed : FnScope N_Lmixed ["_law_script", "_law_k"] (defScope s_Lmixed) := ⟨rfl, rfl, rfl, by decide +kernel, rfl, by decide +kernel, by decide +kernel⟩
abbrev s_Llooks : Stmt := top 77
abbrev N_Llooks : List Str := ["_law_cell", "_law_most", "_law_many", "_law_looks_here", "_law_k", "_law_marks", "_law_places", "_law_at"]
theorem sc_Llooks : FnScope N_Llooks ["_law_cell", "_law_most"] (defScope s_Llooks) := ⟨rfl, rfl, rfl, by decide +kernel, rfl, by decide +kernel, by decide +kernel⟩
abbrev s_Lnames : Stmt := top 78
abbrev N_Lnames : List Str := ["_law_cell", "_law_many", "_law_small", "_law_odd", "_law_base", "_law_k", "_law_at", "_law_names_here", "_law_cut"]
theorem sc_Lnames : FnScope N_Lnames ["_law_cell", "_law_many"] (defScope s_Lnames) := ⟨rfl, rfl, rfl, by decide +kernel, rfl, by decide +kernel, by decide +kernel⟩
abbrev s_law : Stmt := top 79
abbrev N_law : List Str := ["_law_script", "_law_looks_here", "_law_many", "_law_names_here", "_law_store", "_law_model", "_law_k", "_law_cell", "_law_text", "_law_base", "_law_learned", "_law_turn", "_law_name", "_law_found", "_law_last"]
theorem sc_law : FnScope N_law ["_law_script"] (defScope s_law) := ⟨rfl, rfl, rfl, by decide +kernel, rfl, by decide +kernel, by decide +kernel⟩
def fa : List He.Fa := [.cls "Slot", .cls "Even", .noat "Even" "noughts", .noat "Even" "ones", .cls "Quick", .noat "Quick" "held", .cls "Run", .noat "Run" "last", .noat "Run" "length", .cls "Book", .noat "Book" "look", .noat "Book" "slots", .cls "Mixer", .noat "Mixer" "shares", .cls "Foreteller", .noat "Foreteller" "kinds", .noat "Foreteller" "books", .noat "Foreteller" "mixer", .noat "Foreteller" "ended", .noat "Foreteller" "place", .noat "Foreteller" "past", .cls "Span", .noat "Span" "low", .noat "Span" "width", .noat "Span" "size", .cls "Seeker", .noat "Seeker" "row", .noat "Seeker" "span", .noat "Seeker" "number", .noat "Seeker" "taken", .cls "Store", .noat "Store" "kinds", .noat "Store" "longest", .noat "Store" "pieces", .free "isinstance", .free "int", .free "bool", .int "ONE" 16777216, .free "len", .free "tuple", .int "NO_SIGN" 256, .int "FIRST" 1099511627776, .free "zip", .free "sum", .free "list", .free "range", .int "WIDEST" 1099511627776, .free "str", .int "MOST_LETTERS" 8, .glo "NoName", .exc "NoName", .glo "is_whole", .int "LEAST" 32768, .int "MOST_SIGNS" 1000, .glo "NoMost", .exc "NoMost", .int "MOST_PLACES" 4, .int "FARTHEST" 8, .glo "bytes_of_number", .meth "Span" "ends", .glo "checked_name", .glo "NoPiece", .exc "NoPiece", .free "all", .glo "is_sign", .glo "is_bit", .glo "NoBit", .exc "NoBit", .glo "is_chance", .glo "NoChance", .exc "NoChance", .glo "Even", .glo "Quick", .glo "Run", .mkr "Even", .mkr "Quick", .mkr "Run", .glo "KINDS", .glo "are_places", .meth "Span" "told", .meth "Store" "sought_piece", .glo "InUse", .exc "InUse", .glo "are_signs", .glo "NoText", .exc "NoText", .int "MOST_BYTES" 12000, .glo "NoBytes", .exc "NoBytes", .glo "checked_chance", .glo "checked_bit", .int "MOST_COUNTED" 255, .free "max", .free "min", .glo "is_look", .int "MOST_LOOKS" 6, .glo "NoLooks", .exc "NoLooks", .glo "context_of", .glo "slot_of", .meth "Even" "chance", .meth "Quick" "chance", .meth "Run" "chance", .int "NARROWEST" 4294967296, .meth "Even" "seen", .meth "Quick" "seen", .meth "Run" "seen", .glo "gives", .int "KEPT" 31, .int "FIGURES" 48, .glo "checked_looks", .glo "Book", .glo "Mixer", .mkr "Book", .mkr "Mixer", .meth "Book" "chance", .glo "checked_text", .glo "bits_of", .glo "checked_bytes", .glo "Span", .meth "Seeker" "take", .mkr "Span", .meth "Span" "narrow", .glo "checked_most", .glo "TooLong", .exc "TooLong", .meth "Mixer" "mixed", .meth "Foreteller" "chances", .meth "Book" "seen", .meth "Mixer" "learn", .meth "Foreteller" "go", .glo "decisions_of", .meth "Foreteller" "chance", .meth "Foreteller" "see", .glo "Seeker", .meth "Foreteller" "node", .meth "Seeker" "bit", .meth "Foreteller" "signs", .meth "Seeker" "told", .mkr "Seeker", .glo "NoPress", .exc "NoPress", .glo "Foreteller", .glo "read_by", .meth "Store" "chain", .mkr "Foreteller", .glo "press_by", .int "MOST_PIECES" 60, .meth "Store" "fitting", .meth "Store" "read_chain", .glo "Taken", .exc "Taken", .glo "Full", .exc "Full", .glo "_law_looks", .glo "_law_mixed", .glo "_law_names", .glo "Store", .meth "Store" "put", .meth "Store" "learned_of", .meth "Store" "base_of", .meth "Store" "drop", .meth "Store" "text_of", .mkr "Store", .glo "law"]
def fn : List He.DefD := [⟨("is_whole", none), "is_whole", "is_whole", defArgs s_is_whole, defBody s_is_whole, defScope s_is_whole, [], []⟩,
  ⟨("is_bit", none), "is_bit", "is_bit", defArgs s_is_bit, defBody s_is_bit, defScope s_is_bit, [], []⟩,
  ⟨("is_chance", none), "is_chance", "is_chance", defArgs s_is_chance, defBody s_is_chance, defScope s_is_chance, [], []⟩,
  ⟨("is_sign", none), "is_sign", "is_sign", defArgs s_is_sign, defBody s_is_sign, defScope s_is_sign, [], []⟩,
  ⟨("are_signs", none), "are_signs", "are_signs", defArgs s_are_signs, defBody s_are_signs, defScope s_are_signs, [], []⟩,
  ⟨("checked_text", none), "checked_text", "checked_text", defArgs s_checked_text, defBody s_checked_text, defScope s_checked_text, [], []⟩,
  ⟨("checked_bytes", none), "checked_bytes", "checked_bytes", defArgs s_checked_bytes, defBody s_checked_bytes, defScope s_checked_bytes, [], []⟩,
  ⟨("checked_bit", none), "checked_bit", "checked_bit", defArgs s_checked_bit, defBody s_checked_bit, defScope s_checked_bit, [], []⟩,
  ⟨("checked_chance", none), "checked_chance", "checked_chance", defArgs s_checked_chance, defBody s_checked_chance, defScope s_checked_chance, [], []⟩,
  ⟨("checked_most", none), "checked_most", "checked_most", defArgs s_checked_most, defBody s_checked_most, defScope s_checked_most, [], []⟩,
  ⟨("gives", none), "gives", "gives", defArgs s_gives, defBody s_gives, defScope s_gives, [], []⟩,
  ⟨("Even", some "__init__"), "__init__", "Even.__init__", defArgs s_Even_init, defBody s_Even_init, defScope s_Even_init, [], []⟩,
  ⟨("Even", some "chance"), "chance", "Even.chance", defArgs s_Even_chance, defBody s_Even_chance, defScope s_Even_chance, [], []⟩,
  ⟨("Even", some "seen"), "seen", "Even.seen", defArgs s_Even_seen, defBody s_Even_seen, defScope s_Even_seen, [], []⟩,
  ⟨("Quick", some "__init__"), "__init__", "Quick.__init__", defArgs s_Quick_init, defBody s_Quick_init, defScope s_Quick_init, [], []⟩,
  ⟨("Quick", some "chance"), "chance", "Quick.chance", defArgs s_Quick_chance, defBody s_Quick_chance, defScope s_Quick_chance, [], []⟩,
  ⟨("Quick", some "seen"), "seen", "Quick.seen", defArgs s_Quick_seen, defBody s_Quick_seen, defScope s_Quick_seen, [], []⟩,
  ⟨("Run", some "__init__"), "__init__", "Run.__init__", defArgs s_Run_init, defBody s_Run_init, defScope s_Run_init, [], []⟩,
  ⟨("Run", some "chance"), "chance", "Run.chance", defArgs s_Run_chance, defBody s_Run_chance, defScope s_Run_chance, [], []⟩,
  ⟨("Run", some "seen"), "seen", "Run.seen", defArgs s_Run_seen, defBody s_Run_seen, defScope s_Run_seen, [], []⟩,
  ⟨("slot_of", none), "slot_of", "slot_of", defArgs s_slot_of, defBody s_slot_of, defScope s_slot_of, [], []⟩,
  ⟨("are_places", none), "are_places", "are_places", defArgs s_are_places, defBody s_are_places, defScope s_are_places, [], []⟩,
  ⟨("is_look", none), "is_look", "is_look", defArgs s_is_look, defBody s_is_look, defScope s_is_look, [], []⟩,
  ⟨("checked_looks", none), "checked_looks", "checked_looks", defArgs s_checked_looks, defBody s_checked_looks, defScope s_checked_looks, [], []⟩,
  ⟨("context_of", none), "context_of", "context_of", defArgs s_context_of, defBody s_context_of, defScope s_context_of, [], []⟩,
  ⟨("Book", some "__init__"), "__init__", "Book.__init__", defArgs s_Book_init, defBody s_Book_init, defScope s_Book_init, [], []⟩,
  ⟨("Book", some "chance"), "chance", "Book.chance", defArgs s_Book_chance, defBody s_Book_chance, defScope s_Book_chance, [], []⟩,
  ⟨("Book", some "seen"), "seen", "Book.seen", defArgs s_Book_seen, defBody s_Book_seen, defScope s_Book_seen, [], []⟩,
  ⟨("Mixer", some "__init__"), "__init__", "Mixer.__init__", defArgs s_Mixer_init, defBody s_Mixer_init, defScope s_Mixer_init, [], []⟩,
  ⟨("Mixer", some "mixed"), "mixed", "Mixer.mixed", defArgs s_Mixer_mixed, defBody s_Mixer_mixed, defScope s_Mixer_mixed, [], []⟩,
  ⟨("Mixer", some "learn"), "learn", "Mixer.learn", defArgs s_Mixer_learn, defBody s_Mixer_learn, defScope s_Mixer_learn, [], []⟩,
  ⟨("Foreteller", some "__init__"), "__init__", "Foreteller.__init__", defArgs s_Foreteller_init, defBody s_Foreteller_init, defScope s_Foreteller_init, [], []⟩,
  ⟨("Foreteller", some "chances"), "chances", "Foreteller.chances", defArgs s_Foreteller_chances, defBody s_Foreteller_chances, defScope s_Foreteller_chances, [], []⟩,
  ⟨("Foreteller", some "chance"), "chance", "Foreteller.chance", defArgs s_Foreteller_chance, defBody s_Foreteller_chance, defScope s_Foreteller_chance, [], []⟩,
  ⟨("Foreteller", some "node"), "node", "Foreteller.node", defArgs s_Foreteller_node, defBody s_Foreteller_node, defScope s_Foreteller_node, [], []⟩,
  ⟨("Foreteller", some "signs"), "signs", "Foreteller.signs", defArgs s_Foreteller_signs, defBody s_Foreteller_signs, defScope s_Foreteller_signs, [], []⟩,
  ⟨("Foreteller", some "see"), "see", "Foreteller.see", defArgs s_Foreteller_see, defBody s_Foreteller_see, defScope s_Foreteller_see, [], []⟩,
  ⟨("Foreteller", some "go"), "go", "Foreteller.go", defArgs s_Foreteller_go, defBody s_Foreteller_go, defScope s_Foreteller_go, [], []⟩,
  ⟨("bits_of", none), "bits_of", "bits_of", defArgs s_bits_of, defBody s_bits_of, defScope s_bits_of, [], []⟩,
  ⟨("decisions_of", none), "decisions_of", "decisions_of", defArgs s_decisions_of, defBody s_decisions_of, defScope s_decisions_of, [], []⟩,
  ⟨("bytes_of_number", none), "bytes_of_number", "bytes_of_number", defArgs s_bytes_of_number, defBody s_bytes_of_number, defScope s_bytes_of_number, [], []⟩,
  ⟨("Span", some "__init__"), "__init__", "Span.__init__", defArgs s_Span_init, defBody s_Span_init, defScope s_Span_init, [], []⟩,
  ⟨("Span", some "ends"), "ends", "Span.ends", defArgs s_Span_ends, defBody s_Span_ends, defScope s_Span_ends, [], []⟩,
  ⟨("Span", some "narrow"), "narrow", "Span.narrow", defArgs s_Span_narrow, defBody s_Span_narrow, defScope s_Span_narrow, [], []⟩,
  ⟨("Span", some "told"), "told", "Span.told", defArgs s_Span_told, defBody s_Span_told, defScope s_Span_told, [], []⟩,
  ⟨("Seeker", some "__init__"), "__init__", "Seeker.__init__", defArgs s_Seeker_init, defBody s_Seeker_init, defScope s_Seeker_init, [], []⟩,
  ⟨("Seeker", some "take"), "take", "Seeker.take", defArgs s_Seeker_take, defBody s_Seeker_take, defScope s_Seeker_take, [], []⟩,
  ⟨("Seeker", some "bit"), "bit", "Seeker.bit", defArgs s_Seeker_bit, defBody s_Seeker_bit, defScope s_Seeker_bit, [], []⟩,
  ⟨("Seeker", some "told"), "told", "Seeker.told", defArgs s_Seeker_told, defBody s_Seeker_told, defScope s_Seeker_told, [], []⟩,
  ⟨("press_by", none), "press_by", "press_by", defArgs s_press_by, defBody s_press_by, defScope s_press_by, [], []⟩,
  ⟨("read_by", none), "read_by", "read_by", defArgs s_read_by, defBody s_read_by, defScope s_read_by, [], []⟩,
  ⟨("checked_name", none), "checked_name", "checked_name", defArgs s_checked_name, defBody s_checked_name, defScope s_checked_name, [], []⟩,
  ⟨("Store", some "__init__"), "__init__", "Store.__init__", defArgs s_Store_init, defBody s_Store_init, defScope s_Store_init, [.int 1000], []⟩,
  ⟨("Store", some "sought_piece"), "sought_piece", "Store.sought_piece", defArgs s_Store_sought_piece, defBody s_Store_sought_piece, defScope s_Store_sought_piece, [], []⟩,
  ⟨("Store", some "chain"), "chain", "Store.chain", defArgs s_Store_chain, defBody s_Store_chain, defScope s_Store_chain, [], []⟩,
  ⟨("Store", some "read_chain"), "read_chain", "Store.read_chain", defArgs s_Store_read_chain, defBody s_Store_read_chain, defScope s_Store_read_chain, [], []⟩,
  ⟨("Store", some "fitting"), "fitting", "Store.fitting", defArgs s_Store_fitting, defBody s_Store_fitting, defScope s_Store_fitting, [], []⟩,
  ⟨("Store", some "put"), "put", "Store.put", defArgs s_Store_put, defBody s_Store_put, defScope s_Store_put, [.non], []⟩,
  ⟨("Store", some "text_of"), "text_of", "Store.text_of", defArgs s_Store_text_of, defBody s_Store_text_of, defScope s_Store_text_of, [], []⟩,
  ⟨("Store", some "base_of"), "base_of", "Store.base_of", defArgs s_Store_base_of, defBody s_Store_base_of, defScope s_Store_base_of, [], []⟩,
  ⟨("Store", some "learned_of"), "learned_of", "Store.learned_of", defArgs s_Store_learned_of, defBody s_Store_learned_of, defScope s_Store_learned_of, [], []⟩,
  ⟨("Store", some "drop"), "drop", "Store.drop", defArgs s_Store_drop, defBody s_Store_drop, defScope s_Store_drop, [], []⟩,
  ⟨("_law_mixed", none), "_law_mixed", "_law_mixed", defArgs s_Lmixed, defBody s_Lmixed, defScope s_Lmixed, [], []⟩,
  ⟨("_law_looks", none), "_law_looks", "_law_looks", defArgs s_Llooks, defBody s_Llooks, defScope s_Llooks, [], []⟩,
  ⟨("_law_names", none), "_law_names", "_law_names", defArgs s_Lnames, defBody s_Lnames, defScope s_Lnames, [], []⟩,
  ⟨("law", none), "law", "law", defArgs s_law, defBody s_law, defScope s_law, [], []⟩]
def xf : List Xf := [.tup "KINDS" [.str "even", .str "quick", .str "run"]]
def hk : PySem.W.Hook := hookX 6 fa fn xf
def ob (s : PySem.W.SharedT) : AlX := obsXG 6 fa fn xf (HandSHeadRun.getT s)
theorem ob_eq (s : PySem.W.SharedT) : ob s = hk.obs s.abs := obsXG_eq (HandSHeadRun.getT_eq s)
def loose : List Str := (["_wall", "ForetellError", "NoLooks", "NoText", "NoBytes", "NoChance", "NoBit", "NoName", "NoPress", "NoMost", "TooLong", "Taken", "NoPiece", "Full", "InUse"] : List Str) ++ (["ONE", "LEAST", "MOST_SIGNS", "MOST_BYTES", "is_whole", "is_bit", "is_chance", "is_sign", "are_signs", "checked_text", "checked_bytes", "checked_bit", "checked_chance", "checked_most", "gives"] : List Str) ++ (["MOST_COUNTED", "Slot", "Even", "Quick", "Run", "slot_of", "KINDS", "MOST_LOOKS", "MOST_PLACES", "FARTHEST", "NO_SIGN", "are_places", "is_look", "checked_looks", "context_of"] : List Str) ++ (["Book", "FIRST", "FIGURES", "KEPT", "Mixer", "Foreteller", "bits_of", "decisions_of", "WIDEST", "NARROWEST", "bytes_of_number", "Span", "Seeker", "press_by", "read_by"] : List Str) ++ (["MOST_PIECES", "MOST_LETTERS", "checked_name", "Store", "_law_mixed", "_law_looks", "_law_names"] : List Str)
theorem run (w : World) : HandSHeadRun.RunEq W_.row (PySem.W.view W_.row.prog [79]) hk ob 16140 loose w := by
  intro os
  kernel_rfl
end Fo
section
open PySem PySem.W PySem.Calls PyProof.Rows
theorem Fo.early (h : Fo.W_.row.wellSaid = true → Fo.W_.row.Holds) : PySem.Challenge.rw_foretell_k41_learned_of.Holds := by
  w_on; o_law
  exact h (by assumption)
end
namespace Fo
open PySem PySem.Spec PyProof.Rows L2
local macro_rules
  | `(tactic| walk_at "rfl!") => `(tactic| exact rfl)
local macro_rules
  | `(tactic| walk_at "lk0") => `(tactic| first
    | with_reducible assumption
    | (with_reducible refine' lkF ?a ?b; (case a => with_reducible assumption); (case b => walk_at "sm")))
  | `(tactic| walk_at "ne") => `(tactic| first
    | with_reducible assumption
    | (with_reducible refine' Ne.symm ?a; (case a => with_reducible assumption))
    | (with_reducible refine' ne_of_noneF ?a ?b; (case a => with_reducible assumption); (case b => walk_at "lk0"))
    | (with_reducible refine' Ne.symm (ne_of_noneF ?a ?b); (case a => with_reducible assumption); (case b => walk_at "lk0")))
  | `(tactic| walk_at "nm") => `(tactic| first
    | with_reducible assumption
    | exact id
    | (with_reducible show ¬ (_ = _); walk_at "ne")
    | (with_reducible show ¬ (_ ∨ _); refine' not_or.mpr (And.intro ?a ?b); (case a => walk_at "nm"); (case b => walk_at "nm")))
  | `(tactic| walk_at "lk") => `(tactic| first
    | with_reducible assumption
    | with_reducible exact upd_same
    | (with_reducible refine' lkF ?a ?b; (case a => with_reducible assumption); (case b => walk_at "sm"))
    | (with_reducible refine' SameX.lk ?a ?b ?c; (case a => with_reducible assumption); (case b => walk_at "nm"); (case c => walk_at "lk"))
    | (with_reducible refine' lk_newF ?a ?b; (case a => with_reducible assumption); (case b => walk_at "lk"))
    | (with_reducible refine' lk_mut ?a ?b; (case a => walk_at "ne"); (case b => walk_at "lk")))
  | `(tactic| walk_at "sq") => `(tactic| first
    | with_reducible assumption
    | with_reducible exact sq_of upd_same
    | (with_reducible refine' sq_of ?a; (case a => with_reducible assumption))
    | (with_reducible refine' sqF ?a ?b; (case a => with_reducible assumption); (case b => walk_at "sm"))
    | (with_reducible refine' sqLF ?a ?b; (case a => with_reducible assumption); (case b => walk_at "sm"))
    | (with_reducible refine' SameX.seq ?a ?b ?c; (case a => with_reducible assumption); (case b => walk_at "nm"); (case c => walk_at "sq"))
    | (with_reducible refine' sq_newF ?a ?b; (case a => with_reducible assumption); (case b => walk_at "sq"))
    | (with_reducible refine' sq_of ?a; (case a => walk_at "lk")))
  | `(tactic| walk_at "tq") => `(tactic| first
    | with_reducible assumption
    | with_reducible exact stt_of upd_same
    | (with_reducible refine' stt_of ?a; (case a => with_reducible assumption))
    | (with_reducible refine' tqF ?a ?b; (case a => with_reducible assumption); (case b => walk_at "sm"))
    | (with_reducible refine' tqLF ?a ?b; (case a => with_reducible assumption); (case b => walk_at "sm"))
    | (with_reducible refine' SameX.tup ?a ?b ?c; (case a => with_reducible assumption); (case b => walk_at "nm"); (case c => walk_at "tq"))
    | (with_reducible refine' st_newF ?a ?b; (case a => with_reducible assumption); (case b => walk_at "tq"))
    | (with_reducible refine' stt_of ?a; (case a => walk_at "lk")))
  | `(tactic| walk_at "sm") => `(tactic| first
    | with_reducible assumption
    | with_reducible exact L2.Same.refl _
    | (with_reducible refine' same_newF ?a ?b; (case a => with_reducible assumption); (case b => walk_at "sm"))
    | (with_reducible refine' same_mutF ?a ?b; (case a => with_reducible assumption); (case b => walk_at "sm"))
    | (with_reducible refine' same_transF ?a ?b; (case a => with_reducible assumption); (case b => walk_at "sm")))
  | `(tactic| walk_at "pf") => `(tactic| first
    | exact putF_hit
    | exact putF_nil
    | exact putF_far (by decide) (by walk_at "pf"))
  | `(tactic| walk_at "ix") => `(tactic| first
    | with_reducible assumption
    | (simp only [at0, at1, at2, at3]; exact rfl))
  | `(tactic| walk_at "sz1") => `(tactic| first
    | decide
    | (simp only [List.length_cons, List.length_nil]; decide))
  | `(tactic| walk_at "sz") => `(tactic| first
    | with_reducible assumption
    | (refine Nat.le_trans (m := 1000000) ?_ (by decide); (try simp only [List.length_append, List.length_map, List.length_cons, List.length_nil, List.length_replicate, List.length_reverse, List.length_take, List.length_drop, List.length_set]); omega))
local macro_rules
  | `(tactic| walk_at "m64") => `(tactic| first
    | exact Or.inr ⟨by decide, by decide⟩
    | exact Or.inl ⟨by decide, by decide⟩
    | exact Or.inr ⟨by omega, by omega⟩
    | exact Or.inl ⟨by omega, by omega⟩)
local macro_rules
  | `(tactic| walk_at "go1") => `(tactic| first
    | ((with_reducible refine' g_var ?h ?_); (case h => exact rfl))
    | with_reducible refine g_c ?_
    | with_reducible refine g_op ?_
    | with_reducible refine g_cons ?_
    | with_reducible refine g_nil ?_
    | with_reducible refine g_cb ?_
    | with_reducible refine g_plus ?_
    | with_reducible refine g_minus ?_
    | ((with_reducible refine' g_rest ?h ?_); (case h => decide))
    | ((with_reducible refine' g_mul ?h ?_); (case h => walk_at "m64"))
    | with_reducible refine g_lt ?_
    | with_reducible refine g_le ?_
    | with_reducible refine g_gt ?_
    | with_reducible refine g_ge ?_
    | with_reducible refine g_same ?_
    | with_reducible refine g_diff ?_
    | with_reducible refine g_sameS ?_
    | with_reducible refine g_diffS ?_
    | with_reducible refine g_test ?_
    | with_reducible refine g_ebl ?_
    | with_reducible refine g_eint ?_
    | with_reducible refine g_tru ?_
    | with_reducible refine g_truB ?_
    | with_reducible refine g_seq ?_
    | with_reducible refine g_next ?_
    | with_reducible refine g_asg ?_
    | with_reducible refine g_asgT ?_
    | with_reducible refine g_gcons ?_
    | with_reducible refine g_gname ?_
    | with_reducible refine g_gnil ?_
    | with_reducible refine g_gsub ?_
    | ((with_reducible refine' g_gtup ?h ?i ?_); (case h => walk_at "tq"); (case i => exact rfl))
    | with_reducible refine g_p15 ?_
    | with_reducible refine g_p30 ?_
    | with_reducible refine g_sh15 ?_
    | with_reducible refine g_sh16 ?_
    | with_reducible refine g_sh23 ?_
    | with_reducible refine g_sh24 ?_
    | with_reducible refine g_sh40 ?_
    | with_reducible refine g_sh48 ?_
    | with_reducible refine g_p60 ?_
    | ((with_reducible refine' g_floor ?h ?_); (case h => exact ⟨by decide, by decide⟩))
    | ((with_reducible refine' g_asgn ?h ?_); (case h => repeat (first | exact SetR.zero | apply SetR.succ)))
    | with_reducible refine g_if ?_
    | with_reducible refine g_ret ?_
    | with_reducible refine g_retN ?_
    | with_reducible refine g_drop ?_
    | with_reducible refine g_and ?_
    | with_reducible refine g_or ?_
    | with_reducible refine g_not ?_
    | with_reducible refine g_andV ?_
    | with_reducible refine g_orV ?_
    | with_reducible refine g_notV ?_
    | with_reducible refine g_ifT ?_
    | with_reducible refine g_ifF ?_
    | with_reducible refine g_ifNT ?_
    | with_reducible refine g_ifNF ?_
    | with_reducible refine g_fun ?_
    | with_reducible refine g_new ?_
    | with_reducible refine g_on1 ?_
    | with_reducible refine g_on2 ?_
    | with_reducible refine g_on3 ?_
    | with_reducible refine g_on4 ?_
    | with_reducible refine g_on31 ?_
    | with_reducible refine g_on42 ?_
    | with_reducible refine g_on41 ?_
    | with_reducible refine g_bm ?_
    | with_reducible refine g_m1 ?_
    | with_reducible refine g_k1 ?_
    | with_reducible refine g_m2 ?_
    | with_reducible refine g_k2 ?_
    | with_reducible refine g_m3 ?_
    | with_reducible refine g_k3 ?_
    | with_reducible refine g_m4 ?_
    | with_reducible refine g_k4 ?_
    | with_reducible refine g_m5 ?_
    | with_reducible refine g_k5 ?_
    | with_reducible refine g_bm0 ?_
    | with_reducible refine g_fld ?_
    | with_reducible refine g_sto ?_
    | ((with_reducible refine' g_aug ?h ?_); (case h => exact rfl))
    | with_reducible refine g_ip ?_
    | with_reducible refine g_lst ?_
    | with_reducible refine g_tup ?_
    | ((with_reducible refine' g_lstK ?h ?_); (case h => walk_at "sz"))
    | ((with_reducible refine' g_tupK ?h ?_); (case h => walk_at "sz"))
    | with_reducible refine g_un ?_
    | with_reducible refine g_forL ?_
    | with_reducible refine g_forT ?_
    | with_reducible refine g_forR1 ?_
    | with_reducible refine g_forR2 ?_
    | with_reducible refine g_forE ?_
    | with_reducible refine g_forZ ?_
    | with_reducible refine g_lcZ ?_
    | with_reducible refine g_forR3 ?_
    | with_reducible refine g_lcR3 ?_
    | with_reducible refine g_mask1 ?_
    | with_reducible refine g_bitand ?_
    | with_reducible refine g_lcX ?_
    | with_reducible refine g_lcL ?_
    | with_reducible refine g_lcT ?_
    | with_reducible refine g_lcR1 ?_
    | with_reducible refine g_lcR2 ?_
    | with_reducible refine g_new0 ?_
    | with_reducible refine g_neg ?_
    | with_reducible refine g_sl ?_
    | with_reducible refine g_part ?_
    | with_reducible refine g_nopart ?_
    | with_reducible refine g_chain ?_
    | with_reducible refine g_rz ?_
    | with_reducible refine g_isno ?_
    | with_reducible refine g_notno ?_
    | with_reducible refine g_max2 ?_
    | with_reducible refine g_min2 ?_
    | with_reducible refine g_intI ?_
    | with_reducible refine g_intB ?_
    | with_reducible refine g_bits ?_
    | with_reducible refine g_B ?_
    | with_reducible refine g_dget ?_
    | with_reducible refine g_din ?_
    | with_reducible refine g_dnotin ?_
    | with_reducible refine g_mthd ?_
    | with_reducible refine g_fldaug ?_
    | with_reducible refine g_iadd ?_
    | with_reducible refine g_isub ?_
    | with_reducible refine g_whK ?_
    | ((with_reducible refine' g_fldA ?h ?i ?c ?o ?_); (case h => walk_at "lk"); (case i => exact rfl); (case c => infer_instance); (case o => infer_instance))
    | ((with_reducible refine' g_stoU ?i ?e ?c ?o ?_); (case i => walk_at "sz1"); (case e => walk_at "pf"); (case c => infer_instance); (case o => infer_instance))
    | ((with_reducible refine' g_stoA ?h ?i ?e ?c ?o ?_); (case h => walk_at "lk"); (case i => walk_at "sz1"); (case e => walk_at "pf"); (case c => infer_instance); (case o => infer_instance))
    | ((with_reducible refine' g_augA ?h ?i ?c ?o ?_); (case h => walk_at "lk"); (case i => exact rfl); (case c => infer_instance); (case o => infer_instance))
    | ((with_reducible refine' g_putU ?i ?e ?_); (case i => walk_at "sz1"); (case e => walk_at "pf"))
    | ((with_reducible refine' g_putA ?h ?i ?e ?_); (case h => walk_at "lk"); (case i => walk_at "sz1"); (case e => walk_at "pf"))
    | ((with_reducible refine' g_one ?h ?i ?_); (case h => walk_at "lk"); (case i => exact rfl))
    | ((with_reducible refine' g_ixL ?h ?i ?_); (case h => walk_at "sq"); (case i => walk_at "ix"))
    | ((with_reducible refine' g_ixT ?h ?i ?_); (case h => walk_at "tq"); (case i => walk_at "ix"))
    | ((with_reducible refine' g_tyL ?h ?_); (case h => walk_at "sq"))
    | with_reducible refine g_tyS ?_
    | ((with_reducible refine' g_lenL ?h ?_); (case h => walk_at "sq"))
    | ((with_reducible refine' g_lenT ?h ?_); (case h => walk_at "tq"))
    | ((with_reducible refine' g_listL ?h ?_); (case h => walk_at "sq"))
    | ((with_reducible refine' g_listT ?h ?_); (case h => walk_at "tq"))
    | ((with_reducible refine' g_tupleL ?h ?_); (case h => walk_at "sq"))
    | ((with_reducible refine' g_slL ?h ?_); (case h => walk_at "sq"))
    | ((with_reducible refine' g_append ?h ?i ?_); (case h => walk_at "lk"); (case i => walk_at "sz"))
    | ((with_reducible refine' g_reverse ?h ?_); (case h => walk_at "lk"))
    | ((with_reducible refine' g_clear ?h ?_); (case h => walk_at "lk"))
    | ((with_reducible refine' g_cat ?h ?i ?j ?_); (case h => walk_at "lk"); (case i => walk_at "lk"); (case j => walk_at "sz")))
local macro_rules
  | `(tactic| walk_at "go") => `(tactic| repeat walk_at "go1")
local macro_rules
  | `(tactic| walk_at "gs1") => `(tactic| first
    | ((with_reducible refine' g_slTo ?h ?_); (case h => walk_at "sq"))
    | ((with_reducible refine' g_slFrom ?h ?_); (case h => walk_at "sq"))
    | ((with_reducible refine' g_slBut ?h ?_); (case h => walk_at "sq"))
    | ((with_reducible refine' g_slMid ?h ?_); (case h => walk_at "sq"))
    | ((with_reducible refine' g_catM ?h ?i ?j ?_); (case h => walk_at "lk"); (case i => walk_at "lk"); (case j => walk_at "sz"))
    | with_reducible refine g_lst1 ?_
    | with_reducible refine g_lst2 ?_
    | ((with_reducible refine' g_rep1 ?h ?i ?_); (case h => walk_at "lk"); (case i => omega))
    | ((with_reducible refine' g_appI ?h ?i ?_); (case h => walk_at "lk"); (case i => walk_at "sz"))
    | walk_at "go1"
    | (with_reducible refine fun (p : Addr) (np : (_ : Hp) p = none) => ?_)
    | ((with_reducible refine' difY ?h ?_); (case h => first | rfl | omega))
    | ((with_reducible refine' difX ?h ?_); (case h => omega))
    | ((with_reducible refine' difNY ?h ?_); (case h => first | rfl | omega))
    | ((with_reducible refine' difNX ?h ?_); (case h => omega)))
local macro_rules
  | `(tactic| walk_at "gn") => `(tactic| repeat walk_at "gs1")
/-! numbers: a cell of the script; what is whole, a bit, a chance, a sign -/
def cell (ns : List Int) (k : Nat) : Int := ns.getD k 0
theorem ix_ints {ns : List Int} {k : Nat} (h : k < ns.length) : atI (ns.map V.int) (k : Int) = some (.int (ns.getD k 0)) := by
  refine atI_nat ?_
  rw [List.getElem?_map, List.getElem?_eq_getElem h, List.getD_eq_getElem?_getD, List.getElem?_eq_getElem h]
  rfl
def F_Lcell_at (K : PySem.W.Frag) : V → V → Hp → VK → XK → Prop := fun x y H Q _ => ∃ (a : Addr) (ns : List Int) (k : Nat), x = .ref a ∧ y = .int k ∧ SqL K H a (ns.map V.int) ∧ Q (.int (cell ns k)) H
abbrev sp_Lcell_at (K : PySem.W.Frag) : Sp := on2 (F_Lcell_at K)
/-- an int, and no truth -/
def wholeV : V → Bool
  | .int _ => true
  | _ => false
def TyW (K : PySem.W.Frag) (H : Hp) (x : V) : Prop := (∃ i, x = .int i) ∨ (∃ b, x = .bl b) ∨ (wholeV x = false ∧ ∃ tn, TyX K H x (.type tn) ∧ kitB tn "int" = some false)
def F_Lwhole (K : PySem.W.Frag) : V → Hp → VK → XK → Prop := fun x H Q _ => TyW K H x ∧ Q (.bl (wholeV x)) H
abbrev sp_Lwhole (K : PySem.W.Frag) : Sp := on1 (F_Lwhole K)
abbrev F_is_whole (K : PySem.W.Frag) : V → Hp → VK → XK → Prop := F_Lwhole K
abbrev sp_is_whole (K : PySem.W.Frag) : Sp := on1 (F_is_whole K)
def t_is_whole (K : PySem.W.Frag) (E : XK) : TS :=
  tRet (tAndV (tCB (rIsi2 K) (tCons (tVar 0) (tCons (tC (.ty "int")) (tNil)))) (tNotV (tCB (rIsi2 K) (tCons (tVar 0) (tCons (tC (.ty "bool")) (tNil))))))
theorem pure_is_whole (K : PySem.W.Frag) {x : V} {H : Hp} {Q : VK} {E : XK} (h : F_is_whole K x H Q E) : t_is_whole K E ⟨fun _ H' => Q .non H', Q, fun _ _ => False, fun _ _ => False⟩ [some x] H := by
  obtain ⟨ty, q⟩ := h
  unfold t_is_whole
  walk_at "go"
  rcases ty with ⟨i, rfl⟩ | ⟨b, rfl⟩ | ⟨e, tn, ty, hk⟩
  · refine g_isi (s := "") (tn := "int") (.base (.int i)) (b := true) (by decide +kernel) ?_
    walk_at "go"
    refine g_isi (s := "") (tn := "int") (.base (.int i)) (b := false) (by decide +kernel) ?_
    walk_at "go"
    exact q
  · refine g_isi (s := "") (tn := "bool") (.base (.bl b)) (b := true) (by decide +kernel) ?_
    walk_at "go"
    refine g_isi (s := "") (tn := "bool") (.base (.bl b)) (b := true) (by decide +kernel) ?_
    walk_at "go"
    exact q
  · refine g_isi (s := "") ty hk ?_
    walk_at "go"
    rw [e] at q
    exact q
/-- from a to b -/
def btw (a b : Int) : V → Bool
  | .int i => decide (a ≤ i) && decide (i ≤ b)
  | _ => false
theorem TyW.cases {K : PySem.W.Frag} {H : Hp} {x : V} (h : TyW K H x) : (∃ i, x = .int i) ∨ (wholeV x = false ∧ ∀ a b, btw a b x = false) := by
  rcases h with h | ⟨b, rfl⟩ | ⟨e, _⟩
  · exact .inl h
  · exact .inr ⟨rfl, fun _ _ => rfl⟩
  · refine .inr ⟨e, fun a b => ?_⟩
    cases x with
    | int i => cases e
    | _ => rfl
theorem TyW.int {K : PySem.W.Frag} {H : Hp} {i : Int} : TyW K H (.int i) := .inl ⟨i, rfl⟩
theorem TyW.same {K : PySem.W.Frag} {H H1 : Hp} {x : V} (s : ∀ tn, TyX K H x (.type tn) → TyX K H1 x (.type tn)) (h : TyW K H x) : TyW K H1 x := by
  rcases h with h | h | ⟨e, tn, t, k⟩
  · exact .inl h
  · exact .inr (.inl h)
  · exact .inr (.inr ⟨e, tn, s tn t, k⟩)
theorem btw_int {a b : Int} {x : V} (h : btw a b x = true) : ∃ i, x = .int i ∧ a ≤ i ∧ i ≤ b := by
  cases x with
  | int i =>
    rw [btw, Bool.and_eq_true, decide_eq_true_iff, decide_eq_true_iff] at h
    exact ⟨i, rfl, h⟩
  | _ => cases h
theorem tyx_same {K : PySem.W.Frag} {H H1 : Hp} {x : V} {t : Value} (s : Same H H1) (h : TyX K H x t) : TyX K H1 x t := by
  cases h with
  | base h =>
    refine .base ?_
    cases h with
    | non => exact .non
    | bl x => exact .bl x
    | int i => exact .int i
    | str x => exact .str x
    | flt x => exact .flt x
    | lst e => exact .lst (s _ _ e)
    | frz e => exact .frz (s _ _ e)
    | tup e => exact .tup (s _ _ e)
    | dK e => exact .dK (s _ _ e)
    | dT e => exact .dT (s _ _ e)
    | ins e c a b d m => exact .ins (s _ _ e) c a b d m
  | byt b => exact .byt b
  | set e => exact .set (s _ _ e)
  | kList e c => exact .kList e c
  | kTuple e c => exact .kTuple e c
  | kDict e c => exact .kDict e c
  | fTuple e => exact .fTuple (s _ _ e)
  | fDict e => exact .fDict (s _ _ e)
theorem tyw_same {K : PySem.W.Frag} {H H1 : Hp} {x : V} (s : Same H H1) (h : TyW K H x) : TyW K H1 x := h.same fun _ => tyx_same s
theorem ifB {A B : Prop} {b : Bool} (h1 : b = true → A) (h2 : b = false → B) : if b = true then A else B := difB h1 h2
def F_btw (K : PySem.W.Frag) (a b : Int) : V → Hp → VK → XK → Prop := fun x H Q _ => TyW K H x ∧ Q (.bl (btw a b x)) H
abbrev sp_is_bit (K : PySem.W.Frag) : Sp := on1 (F_btw K 0 1)
abbrev sp_is_chance (K : PySem.W.Frag) : Sp := on1 (F_btw K 32768 16744448)
def t_is_bit (K : PySem.W.Frag) (E : XK) : TS :=
  tRet (tAndV (tFun (sp_is_whole K) [] (fun _ => E) (tCons (tVar 0) (tNil))) (tChain (rLe) (rLe) (tC (.int 0)) (tVar 0) (tC (.int 1))))
theorem pure_is_bit (K : PySem.W.Frag) {x : V} {H : Hp} {Q : VK} {E : XK} (h : F_btw K 0 1 x H Q E) : t_is_bit K E ⟨fun _ H' => Q .non H', Q, fun _ _ => False, fun _ _ => False⟩ [some x] H := by
  obtain ⟨ty, q⟩ := h
  unfold t_is_bit
  walk_at "go"
  refine ⟨ty, ?_⟩
  rcases ty.cases with ⟨i, rfl⟩ | ⟨e1, e2⟩
  · walk_at "go"
    refine g_ifT ?_
    walk_at "go"
    refine dif (fun h => ?_) fun h => ?_
    · walk_at "go"
      rwa [btw, decide_eq_true h, Bool.true_and] at q
    · rwa [btw, decide_eq_false h, Bool.false_and] at q
  · rw [e1]
    rw [e2] at q
    walk_at "go"
    exact q
def t_is_chance (K : PySem.W.Frag) (E : XK) : TS :=
  tRet (tAndV (tFun (sp_is_whole K) [] (fun _ => E) (tCons (tVar 0) (tNil))) (tChain (rLe) (rLe) (tC (.int 32768)) (tVar 0) (tOp (rMinus) (tC (.int 16777216)) (tC (.int 32768)))))
theorem pure_is_chance (K : PySem.W.Frag) {x : V} {H : Hp} {Q : VK} {E : XK} (h : F_btw K 32768 16744448 x H Q E) : t_is_chance K E ⟨fun _ H' => Q .non H', Q, fun _ _ => False, fun _ _ => False⟩ [some x] H := by
  obtain ⟨ty, q⟩ := h
  unfold t_is_chance
  walk_at "go"
  refine ⟨ty, ?_⟩
  rcases ty.cases with ⟨i, rfl⟩ | ⟨e1, e2⟩
  · walk_at "go"
    refine g_ifT ?_
    walk_at "go"
    refine dif (fun h => ?_) fun h => ?_
    · walk_at "go"
      rwa [btw, decide_eq_true h, Bool.true_and] at q
    · rwa [btw, decide_eq_false h, Bool.false_and] at q
  · rw [e1]
    rw [e2] at q
    walk_at "go"
    exact q
abbrev sp_is_sign (K : PySem.W.Frag) : Sp := on1 (F_btw K 0 255)
def t_is_sign (K : PySem.W.Frag) (E : XK) : TS :=
  tRet (tAndV (tFun (sp_is_whole K) [] (fun _ => E) (tCons (tVar 0) (tNil))) (tChain (rLe) (rLe) (tC (.int 0)) (tVar 0) (tC (.int 255))))
theorem pure_is_sign (K : PySem.W.Frag) {x : V} {H : Hp} {Q : VK} {E : XK} (h : F_btw K 0 255 x H Q E) : t_is_sign K E ⟨fun _ H' => Q .non H', Q, fun _ _ => False, fun _ _ => False⟩ [some x] H := by
  obtain ⟨ty, q⟩ := h
  unfold t_is_sign
  walk_at "go"
  refine ⟨ty, ?_⟩
  rcases ty.cases with ⟨i, rfl⟩ | ⟨e1, e2⟩
  · walk_at "go"
    refine g_ifT ?_
    walk_at "go"
    refine dif (fun h => ?_) fun h => ?_
    · walk_at "go"
      rwa [btw, decide_eq_true h, Bool.true_and] at q
    · rwa [btw, decide_eq_false h, Bool.false_and] at q
  · rw [e1]
    rw [e2] at q
    walk_at "go"
    exact q
/-- what a check hands on, what it refuses -/
def F_chk (K : PySem.W.Frag) (a b : Int) (C : Str) : V → Hp → VK → XK → Prop := fun x H Q E => TyW K H x ∧ (btw a b x = true → Q x H) ∧ (btw a b x = false → E (.ref (He.ga K C)) none H)
abbrev sp_checked_bit (K : PySem.W.Frag) : Sp := on1 (F_chk K 0 1 "NoBit")
abbrev sp_checked_chance (K : PySem.W.Frag) : Sp := on1 (F_chk K 32768 16744448 "NoChance")
theorem chk_int {K : PySem.W.Frag} {a b i : Int} {C : Str} {H : Hp} {Q : VK} {E : XK} (h : a ≤ i ∧ i ≤ b) (q : Q (.int i) H) : F_chk K a b C (.int i) H Q E :=
  ⟨.int, fun _ => q, fun e => by rw [btw, decide_eq_true h.1, decide_eq_true h.2] at e; cases e⟩
def t_checked_bit (K : PySem.W.Frag) (E : XK) : TS :=
  tSeq (tIfS (tNot (tTru K (tFun (sp_is_bit K) [] (fun _ => E) (tCons (tVar 0) (tNil))))) (tRz (fun cls d _ H => E cls d H) (He.ga K "NoBit")) (tNext))
  (tRet (tVar 0))
theorem pure_checked_bit (K : PySem.W.Frag) {x : V} {H : Hp} {Q : VK} {E : XK} (h : F_chk K 0 1 "NoBit" x H Q E) : t_checked_bit K E ⟨fun _ H' => Q .non H', Q, fun _ _ => False, fun _ _ => False⟩ [some x] H := by
  obtain ⟨ty, q, r⟩ := h
  unfold t_checked_bit
  walk_at "go"
  refine ⟨ty, ?_⟩
  walk_at "go"
  refine difNB (fun h => ?_) fun h => ?_
  · walk_at "go"
    exact r h
  · walk_at "go"
    exact q h
def t_checked_chance (K : PySem.W.Frag) (E : XK) : TS :=
  tSeq (tIfS (tNot (tTru K (tFun (sp_is_chance K) [] (fun _ => E) (tCons (tVar 0) (tNil))))) (tRz (fun cls d _ H => E cls d H) (He.ga K "NoChance")) (tNext))
  (tRet (tVar 0))
theorem pure_checked_chance (K : PySem.W.Frag) {x : V} {H : Hp} {Q : VK} {E : XK} (h : F_chk K 32768 16744448 "NoChance" x H Q E) : t_checked_chance K E ⟨fun _ H' => Q .non H', Q, fun _ _ => False, fun _ _ => False⟩ [some x] H := by
  obtain ⟨ty, q, r⟩ := h
  unfold t_checked_chance
  walk_at "go"
  refine ⟨ty, ?_⟩
  walk_at "go"
  refine difNB (fun h => ?_) fun h => ?_
  · walk_at "go"
    exact r h
  · walk_at "go"
    exact q h
def gave (c b : Int) : Int := if b = 1 then c else 16777216 - c
def F_gives (K : PySem.W.Frag) : V → V → Hp → VK → XK → Prop := fun x y H Q E => TyW K H x ∧ TyW K H y ∧ (btw 32768 16744448 x = false → E (.ref (He.ga K "NoChance")) none H) ∧ (btw 32768 16744448 x = true → btw 0 1 y = false → E (.ref (He.ga K "NoBit")) none H) ∧
  (∀ c b : Int, x = .int c → y = .int b → 32768 ≤ c → c ≤ 16744448 → 0 ≤ b → b ≤ 1 → Q (.int (gave c b)) H)
abbrev sp_gives (K : PySem.W.Frag) : Sp := on2 (F_gives K)
theorem gives_of {K : PySem.W.Frag} {H : Hp} {Q : VK} {E : XK} {c b : Int} (hc : 32768 ≤ c ∧ c ≤ 16744448) (hb : 0 ≤ b ∧ b ≤ 1) (q : Q (.int (gave c b)) H) : F_gives K (.int c) (.int b) H Q E := by
  have bt : ∀ {u v i : Int}, u ≤ i ∧ i ≤ v → btw u v (.int i) = true := fun h => by rw [btw, decide_eq_true h.1, decide_eq_true h.2]; rfl
  refine ⟨.int, .int, fun k => ?_, fun _ k => ?_, fun c' b' e1 e2 _ _ _ _ => ?_⟩
  · rw [bt hc] at k; cases k
  · rw [bt hb] at k; cases k
  · cases e1
    cases e2
    exact q
def t_gives (K : PySem.W.Frag) (E : XK) : TS :=
  tSeq (tAsg (tFun (sp_checked_chance K) [] (fun _ => E) (tCons (tVar 0) (tNil))) (gName 2))
  (tSeq (tIfS (tTest (tOp (rSame K) (tFun (sp_checked_bit K) [] (fun _ => E) (tCons (tVar 1) (tNil))) (tC (.int 1)))) (tRet (tVar 2)) (tNext))
  (tRet (tOp (rMinus) (tC (.int 16777216)) (tVar 2))))
theorem pure_gives (K : PySem.W.Frag) {x y : V} {H : Hp} {Q : VK} {E : XK} (h : F_gives K x y H Q E) : t_gives K E ⟨fun _ H' => Q .non H', Q, fun _ _ => False, fun _ _ => False⟩ [some x, some y, none] H := by
  obtain ⟨tx, ty, r1, r2, q⟩ := h
  unfold t_gives
  walk_at "go"
  refine ⟨tx, fun hx => ?_, r1⟩
  walk_at "go"
  refine ⟨ty, fun hy => ?_, r2 hx⟩
  obtain ⟨c, rfl, c1, c2⟩ := btw_int hx
  obtain ⟨b, rfl, b1, b2⟩ := btw_int hy
  have q := q c b rfl rfl c1 c2 b1 b2
  unfold gave at q
  walk_at "go"
  refine dif (fun h => ?_) fun h => ?_
  · rw [if_pos h] at q
    walk_at "go"
    exact q
  · rw [if_neg h] at q
    walk_at "go"
    exact q
/-! a step: a chance, a bit, of a cell -/
def stepC (n : Int) : Int :=
  let m := n % 1000000000000000
  if m / 2 % 7 < 3 then (if m / 2 % 7 = 0 then 32768 else if m / 2 % 7 = 1 then 16744448 else 8388608) else 32768 + ((m * m + 5 * m + 11) * 48271 % 2147483647) % 16711681
def stepB (n : Int) : Int := n % 1000000000000000 % 2
theorem stepC_ok (n : Int) : 32768 ≤ stepC n ∧ stepC n ≤ 16744448 := by
  unfold stepC
  simp only []
  split
  · split
    · decide
    · split <;> decide
  · omega
theorem stepB_ok (n : Int) : 0 ≤ stepB n ∧ stepB n ≤ 1 := by unfold stepB; omega
def F_Lstep (K : PySem.W.Frag) : V → Hp → VK → XK → Prop := fun x H Q _ => ∃ n : Int, x = .int n ∧ ∀ p H', H p = none → Same H H' → H' p = some (.tup [.int (stepC n), .int (stepB n)]) → Q (.ref p) H'
abbrev sp_Lstep (K : PySem.W.Frag) : Sp := on1 (F_Lstep K)/-! contexts of looks -/
/-- a look's places -/
structure Plc (ps : List Int) : Prop where
  len : ps.length ≤ 4
  all : ∀ z ∈ ps, 1 ≤ z ∧ z ≤ 8
  up : ps.Pairwise (· < ·)
/-! contexts -/
def ctxAt (ns : List Int) (z : Int) : Int := if z ≤ (ns.length : Int) then ns.getD (ns.length - z.toNat) 0 else 256
def ctx (ps ns : List Int) (node : Int) : List Int := ps.map (ctxAt ns) ++ [node]
theorem ix_far {ns : List Int} {z : Int} (h : 1 ≤ z) (h2 : z ≤ (ns.length : Int)) : atI (ns.map V.int) ((ns.length : Int) - z) = some (.int (ctxAt ns z)) := by
  have e : (ns.length : Int) - z = ((ns.length - z.toNat : Nat) : Int) := by omega
  rw [e, ix_ints (by omega)]
  unfold ctxAt
  rw [if_pos h2]
theorem ix_back {ns : List Int} {z : Int} (h : 1 ≤ z) (h2 : z ≤ (ns.length : Int)) : atI (ns.map V.int) (-z) = some (.int (ctxAt ns z)) := by
  have e := ix_far h h2
  unfold atI at e ⊢
  have k : ixN (ns.map V.int).length (-z) = ixN (ns.map V.int).length ((ns.length : Int) - z) := by
    rw [List.length_map]
    unfold ixN
    rw [if_neg (by omega), if_pos (by omega), if_pos (by omega), if_pos (by omega)]
    congr 2
    omega
  rw [k]
  exact e
/-- a look as it stands: its kind, its places -/
def LookAt (K : PySem.W.Frag) (H : Hp) (a : Addr) (kind : Str) (ps : List Int) : Prop := ∃ b, SqT K H a [.str kind, .ref b] ∧ SqT K H b (ps.map V.int) ∧ Plc ps
theorem LookAt.same {K : PySem.W.Frag} {H H1 : Hp} {a : Addr} {kind : Str} {ps : List Int} (s : Same H H1) (h : LookAt K H a kind ps) : LookAt K H1 a kind ps := by
  obtain ⟨b, h1, h2, p⟩ := h
  exact ⟨b, Fo.Same.tup s h1, Fo.Same.tup s h2, p⟩
def F_context_of (K : PySem.W.Frag) : V → V → V → Hp → VK → XK → Prop := fun x y z H Q _ => ∃ (a c : Addr) (kind : Str) (ps ns : List Int) (node : Int), x = .ref a ∧ y = .ref c ∧ z = .int node ∧ LookAt K H a kind ps ∧ SqL K H c (ns.map V.int) ∧
  ∀ p H', H p = none → Same H H' → H' p = some (.tup ((ctx ps ns node).map V.int)) → Q (.ref p) H'
abbrev sp_context_of (K : PySem.W.Frag) : Sp := on3 (F_context_of K)
theorem take_snoc {α : Type} {l : List α} {i : Nat} {x : α} (h : l[i]? = some x) : l.take (i + 1) = l.take i ++ [x] := by
  rw [List.take_add_one, h]
  rfl
def t_context_of (K : PySem.W.Frag) (E : XK) : TS :=
  tSeq (tAsg (tLst (tNil)) (gName 3))
  (tSeq (tFor (iTup K (tOp (rIx K) (tVar 0) (tC (.int 1)))) (gName 4) (tIfS (tTest (tOp (rLe) (tVar 4) (tCB (rLength K) (tCons (tVar 1) (tNil))))) (tDrop (tBM K "list" (rAppend) (tVar 3) (tCons (tOp (rIx K) (tVar 1) (tOp (rMinus) (tCB (rLength K) (tCons (tVar 1) (tNil))) (tVar 4))) (tNil)))) (tDrop (tBM K "list" (rAppend) (tVar 3) (tCons (tC (.int 256)) (tNil))))))
  (tRet (tCB (rTupleOf K) (tCons (tOp (rPlus K) (tVar 3) (tLst (tCons (tVar 2) (tNil)))) (tNil)))))
theorem pure_context_of (K : PySem.W.Frag) {x y z : V} {H : Hp} {Q : VK} {E : XK} (h : F_context_of K x y z H Q E) : t_context_of K E ⟨fun _ H' => Q .non H', Q, fun _ _ => False, fun _ _ => False⟩ [some x, some y, some z, none, none] H := by
  obtain ⟨a, c, kind, ps, ns, node, rfl, rfl, rfl, ⟨b, hl, hb, P⟩, hn, q⟩ := h
  unfold t_context_of
  walk_at "go"
  intro l nl
  walk_at "go"
  have s0 := same_new (u := .lst []) (Same.refl H) nl
  refine for_TI (st_new hb nl) (fun i σ H1 => ∃ v, σ = [some (.ref a), some (.ref c), some (.int node), some (.ref l), v] ∧ Same H H1 ∧ H1 l = some (.lst (((ps.take i).map (ctxAt ns)).map V.int))) ?_ ?_ ?_ ?_
  · exact ⟨_, rfl, s0, upd_same⟩
  · rintro i σ H1 ⟨v, rfl, s, e⟩
    exact Fo.Same.tup s hb
  · rintro i z σ H1 hz ⟨v, rfl, s, e⟩
    have hi : i < ps.length := (List.getElem?_eq_some_iff.mp hz).1
    have pl := P.len
    obtain ⟨z1, z8⟩ := P.all z (List.mem_of_getElem? hz)
    have nxt : ∀ w, w = ctxAt ns z → (((ps.take i).map (ctxAt ns)).map V.int ++ [V.int w]) = ((ps.take (i + 1)).map (ctxAt ns)).map V.int := fun w hw => by
      rw [take_snoc hz, hw, List.map_append, List.map_append]
      rfl
    walk_at "go"
    rw [List.length_map]
    refine dif (fun h1 => ?_) (fun h1 => ?_)
    · walk_at "go"
      rw [List.length_map]
      refine g_ixL (s.seq hn) (ix_far z1 h1) ?_
      walk_at "go"
      exact ⟨_, rfl, same_mut s nl, by rw [upd_same, nxt _ rfl]⟩
    · walk_at "go"
      exact ⟨_, rfl, same_mut s nl, by rw [upd_same, nxt]; unfold ctxAt; rw [if_neg h1]⟩
  · rintro σ H1 ⟨v, rfl, s, e⟩
    rw [List.take_length] at e
    have pl := P.len
    walk_at "go"
    intro m nm
    walk_at "go"
    intro r nr
    walk_at "go"
    intro p np
    have s2 : Same H (upd (upd H1 m (HO.lst [V.int node])) r (HO.lst (List.map V.int (List.map (ctxAt ns) ps) ++ [V.int node]))) := by walk_at "sm"
    exact q p _ (s2.free np) (by walk_at "sm") (by rw [upd_same]; unfold ctx; rw [List.map_append]; rfl)
/-! looks: what is one, what are some -/
def kindOk (z : Str) : Bool := inV (.str z) [.str "even", .str "quick", .str "run"]
def rising : Int → List V → Bool
  | _, [] => true
  | last, v :: vs => btw (last + 1) 8 v && (match v with | .int i => rising i vs | _ => false)
inductive PlT (K : PySem.W.Frag) (H : Hp) : V → Bool → Prop
  | tup {a : Addr} {xs : List V} (e : H a = some (.tup xs)) (l : xs.length ≤ 1000000) (t : ∀ v ∈ xs, TyW K H v) : PlT K H (.ref a) (decide (xs.length ≤ 4) && rising 0 xs)
  | other {x : V} {tn : String} (t : TyX K H x (.type tn)) (k : kitB tn "tuple" = some false) : PlT K H x false
inductive LkT (K : PySem.W.Frag) (H : Hp) : V → Bool → Prop
  | pair {a : Addr} {z : Str} {p : V} {b : Bool} (e : H a = some (.tup [.str z, p])) (h : PlT K H p b) : LkT K H (.ref a) (kindOk z && b)
  | kind {a : Addr} {z : Str} {p : V} (e : H a = some (.tup [.str z, p])) (h : kindOk z = false) : LkT K H (.ref a) false
  | nostr {a : Addr} {x p : V} {tn : String} (e : H a = some (.tup [x, p])) (t : TyX K H x (.type tn)) (k : kitB tn "str" = some false) : LkT K H (.ref a) false
  | len {a : Addr} {xs : List V} (e : H a = some (.tup xs)) (l : xs.length ≠ 2) : LkT K H (.ref a) false
  | other {x : V} {tn : String} (t : TyX K H x (.type tn)) (k : kitB tn "tuple" = some false) : LkT K H x false
/-- whether x are looks -/
inductive LsT (K : PySem.W.Frag) (H : Hp) : V → Bool → Prop
  | lst {a : Addr} {xs : List V} {bs : List Bool} (e : H a = some (.lst xs)) (l : xs.length ≤ 1000000) (bl : bs.length = xs.length) (t : ∀ (i : Nat) v b, xs[i]? = some v → bs[i]? = some b → LkT K H v b) : LsT K H (.ref a) (decide (1 ≤ xs.length) && (decide (xs.length ≤ 6) && bs.all id))
  | other {x : V} {tn : String} (t : TyX K H x (.type tn)) (k : kitB tn "list" = some false) : LsT K H x false
theorem PlT.same {K : PySem.W.Frag} {H H1 : Hp} {x : V} {b : Bool} (h : PlT K H x b) (s : Same H H1) : PlT K H1 x b := by
  cases h with
  | tup e l t => exact .tup (s _ _ e) l fun v hv => tyw_same s (t v hv)
  | other t k => exact .other (tyx_same s t) k
theorem LkT.same {K : PySem.W.Frag} {H H1 : Hp} {x : V} {b : Bool} (h : LkT K H x b) (s : Same H H1) : LkT K H1 x b := by
  cases h with
  | pair e h => exact .pair (s _ _ e) (h.same s)
  | kind e h => exact .kind (s _ _ e) h
  | nostr e t k => exact .nostr (s _ _ e) (tyx_same s t) k
  | len e l => exact .len (s _ _ e) l
  | other t k => exact .other (tyx_same s t) k
theorem LsT.same {K : PySem.W.Frag} {H H1 : Hp} {x : V} {b : Bool} (h : LsT K H x b) (s : Same H H1) : LsT K H1 x b := by
  cases h with
  | lst e l bl t => exact .lst (s _ _ e) l bl fun i v b hv hb => (t i v b hv hb).same s
  | other t k => exact .other (tyx_same s t) k
def F_are_places (K : PySem.W.Frag) : V → Hp → VK → XK → Prop := fun x H Q _ => ∃ b : Bool, PlT K H x b ∧ Q (.bl b) H
abbrev sp_are_places (K : PySem.W.Frag) : Sp := on1 (F_are_places K)
def t_are_places (K : PySem.W.Frag) (E : XK) : TS :=
  tSeq (tIfS (tOr (tNot (tTru K (tCB (rIsi2 K) (tCons (tVar 0) (tCons (tC (.ty "tuple")) (tNil)))))) (tTest (tOp (iGt) (tCB (rLength K) (tCons (tVar 0) (tNil))) (tC (.int 4))))) (tRet (tC (.bl false))) (tNext))
  (tSeq (tAsg (tC (.int 0)) (gName 1))
  (tSeq (tFor (iTup K (tVar 0)) (gName 2) (tSeq (tIfS (tOr (tNot (tTru K (tFun (sp_is_whole K) [] (fun _ => E) (tCons (tVar 2) (tNil))))) (tNot (tTest (tChain (iLt) (rLe) (tVar 1) (tVar 2) (tC (.int 8)))))) (tRet (tC (.bl false))) (tNext))
  (tAsg (tVar 2) (gName 1))))
  (tRet (tC (.bl true)))))
theorem pure_are_places (K : PySem.W.Frag) {x : V} {H : Hp} {Q : VK} {E : XK} (h : F_are_places K x H Q E) : t_are_places K E ⟨fun _ H' => Q .non H', Q, fun _ _ => False, fun _ _ => False⟩ [some x, none, none] H := by
  obtain ⟨b, P, q⟩ := h
  unfold t_are_places
  walk_at "go"
  cases P with
  | @tup a xs e l t =>
    refine g_isi (s := "") (tn := "tuple") (.base (.tup e)) (b := true) (by decide +kernel) ?_
    walk_at "go"
    refine dif (fun h => ?_) fun h => ?_
    · rw [decide_eq_false (by omega), Bool.false_and] at q
      walk_at "go"
      exact q
    · rw [decide_eq_true (by omega), Bool.true_and] at q
      walk_at "go"
      refine for_T (stt_of e) (fun i σ H1 => ∃ last u, σ = [some (.ref a), some (.int last), u] ∧ H1 = H ∧ rising 0 xs = rising last (xs.drop i)) ⟨0, _, rfl, rfl, rfl⟩ ?_ ?_ ?_
      · rintro i σ H1 ⟨last, u, rfl, rfl, -⟩
        exact stt_of e
      · rintro i v σ H1 hv ⟨last, u, rfl, rfl, r⟩
        have hi := (List.getElem?_eq_some_iff.mp hv).1
        have hd : xs.drop i = v :: xs.drop (i + 1) := by
          rw [List.drop_eq_getElem_cons hi]
          congr 1
          exact (List.getElem?_eq_some_iff.mp hv).2
        rw [hd] at r
        have tv := t v (List.mem_of_getElem? hv)
        walk_at "go"
        refine ⟨tv, ?_⟩
        rcases tv.cases with ⟨z, rfl⟩ | ⟨e1, e2⟩
        · refine ⟨true, rfl, ?_⟩
          walk_at "go"
          have r : rising 0 xs = (btw (last + 1) 8 (.int z) && rising z (xs.drop (i + 1))) := r
          refine dif (fun h1 => ?_) fun h1 => ?_
          · walk_at "go"
            refine difN (fun h2 => ?_) fun h2 => ?_
            · rw [r, btw, decide_eq_true (by omega), decide_eq_false (by omega)] at q
              walk_at "go"
              exact q
            · rw [btw, decide_eq_true (by omega), decide_eq_true (by omega)] at r
              walk_at "go"
              exact ⟨z, _, rfl, rfl, by rw [r]; rfl⟩
          · rw [r, btw, decide_eq_false (by omega), Bool.false_and, Bool.false_and] at q
            walk_at "go"
            exact q
        · rw [e1]
          refine g_truB ?_
          walk_at "go"
          have r : rising 0 xs = false := by
            rw [r]
            show (btw (last + 1) 8 v && _) = false
            rw [e2, Bool.false_and]
          rw [r] at q
          exact q
      · rintro σ H1 ⟨last, u, rfl, rfl, r⟩
        rw [List.drop_of_length_le (Nat.le_refl _)] at r
        walk_at "go"
        rw [r] at q
        exact q
  | other t k =>
    refine g_isi (s := "") t k ?_
    walk_at "go"
    exact q
section
variable (K : PySem.W.Frag) [HasTup K "KINDS" [.str "even", .str "quick", .str "run"]]
theorem g_kinds {z : Str} {H : Hp} {Q : VK} (q : Q (.bl (kindOk z)) H) : rAmong K (.str z) (.ref (He.ga K "KINDS")) H Q :=
  .inl ⟨_, _, rfl, .inr (HasTup.h H), rfl, rfl, q⟩
def F_is_look (K : PySem.W.Frag) : V → Hp → VK → XK → Prop := fun x H Q _ => ∃ b : Bool, LkT K H x b ∧ Q (.bl b) H
abbrev sp_is_look (K : PySem.W.Frag) : Sp := on1 (F_is_look K)
def t_is_look (K : PySem.W.Frag) (E : XK) : TS :=
  tSeq (tIfS (tOr (tNot (tTru K (tCB (rIsi2 K) (tCons (tVar 0) (tCons (tC (.ty "tuple")) (tNil)))))) (tTest (tOp (rDiff K) (tCB (rLength K) (tCons (tVar 0) (tNil))) (tC (.int 2))))) (tRet (tC (.bl false))) (tNext))
  (tRet (tAndV (tCB (rIsi2 K) (tCons (tOp (rIx K) (tVar 0) (tC (.int 0))) (tCons (tC (.ty "str")) (tNil)))) (tAndV (tOp (rAmong K) (tOp (rIx K) (tVar 0) (tC (.int 0))) (tC (.ref (He.ga K "KINDS")))) (tFun (sp_are_places K) [] (fun _ => E) (tCons (tOp (rIx K) (tVar 0) (tC (.int 1))) (tNil))))))
theorem pure_is_look {x : V} {H : Hp} {Q : VK} {E : XK} (h : F_is_look K x H Q E) : t_is_look K E ⟨fun _ H' => Q .non H', Q, fun _ _ => False, fun _ _ => False⟩ [some x] H := by
  obtain ⟨b, P, q⟩ := h
  unfold t_is_look
  walk_at "go"
  cases P with
  | @pair a z p b e h =>
    refine g_isi (s := "") (tn := "tuple") (.base (.tup e)) (b := true) (by decide +kernel) ?_
    walk_at "go"
    refine difNY rfl ?_
    walk_at "go"
    refine g_isi (s := "") (tn := "str") (.base (.str z)) (b := true) (by decide +kernel) ?_
    walk_at "go"
    refine g_kinds K ?_
    walk_at "go"
    refine difB (fun hk => ?_) fun hk => ?_
    · walk_at "go"
      rw [hk, Bool.true_and] at q
      exact ⟨b, h, q⟩
    · rw [hk, Bool.false_and] at q
      exact q
  | @kind a z p e h =>
    refine g_isi (s := "") (tn := "tuple") (.base (.tup e)) (b := true) (by decide +kernel) ?_
    walk_at "go"
    refine difNY rfl ?_
    walk_at "go"
    refine g_isi (s := "") (tn := "str") (.base (.str z)) (b := true) (by decide +kernel) ?_
    walk_at "go"
    refine g_kinds K ?_
    rw [h]
    walk_at "go"
    exact q
  | @nostr a y p tn e t k =>
    refine g_isi (s := "") (tn := "tuple") (.base (.tup e)) (b := true) (by decide +kernel) ?_
    walk_at "go"
    refine difNY rfl ?_
    walk_at "go"
    refine g_isi (s := "") t k ?_
    walk_at "go"
    exact q
  | @len a xs e l =>
    refine g_isi (s := "") (tn := "tuple") (.base (.tup e)) (b := true) (by decide +kernel) ?_
    walk_at "go"
    refine difNX (by omega) ?_
    walk_at "go"
    exact q
  | other t k =>
    refine g_isi (s := "") t k ?_
    walk_at "go"
    exact q
def F_checked_looks (K : PySem.W.Frag) : V → Hp → VK → XK → Prop := fun x H Q E => ∃ b : Bool, LsT K H x b ∧ (b = false → ∀ H', Same H H' → E (.ref (He.ga K "NoLooks")) none H') ∧
  (b = true → ∀ a xs, x = .ref a → H a = some (.lst xs) → 1 ≤ xs.length → xs.length ≤ 6 → ∀ l H', H l = none → Same H H' → H' l = some (.lst xs) → Q (.ref l) H')
abbrev sp_checked_looks (K : PySem.W.Frag) : Sp := on1 (F_checked_looks K)
def t_checked_looks (K : PySem.W.Frag) (E : XK) : TS :=
  tSeq (tIfS (tOr (tNot (tTru K (tCB (rIsi2 K) (tCons (tVar 0) (tCons (tC (.ty "list")) (tNil)))))) (tNot (tTest (tChain (rLe) (rLe) (tC (.int 1)) (tCB (rLength K) (tCons (tVar 0) (tNil))) (tC (.int 6)))))) (tRz (fun cls d _ H => E cls d H) (He.ga K "NoLooks")) (tNext))
  (tSeq (tIfS (tNot (tTru K (tCB (rAll K) (tCons (tLc (iList K (tVar 0)) (gName 1) (tYes) (tFun (sp_is_look K) [] (fun _ => E0) (tCons (tVar 1) (tNil))) [1]) (tNil))))) (tRz (fun cls d _ H => E cls d H) (He.ga K "NoLooks")) (tNext))
  (tRet (tCB (rListOf K) (tCons (tVar 0) (tNil)))))
theorem pure_checked_looks {x : V} {H : Hp} {Q : VK} {E : XK} (h : F_checked_looks K x H Q E) : t_checked_looks K E ⟨fun _ H' => Q .non H', Q, fun _ _ => False, fun _ _ => False⟩ [some x, none] H := by
  obtain ⟨b, P, r, q⟩ := h
  unfold t_checked_looks
  walk_at "go"
  cases P with
  | @lst a xs bs e l bl t =>
    refine g_isi (s := "") (tn := "list") (.base (.lst e)) (b := true) (by decide +kernel) ?_
    walk_at "go"
    refine dif (fun h1 => ?_) fun h1 => ?_
    · walk_at "go"
      refine difN (fun h2 => ?_) fun h2 => ?_
      · walk_at "go"
        rw [decide_eq_false (p := xs.length ≤ 6) (by omega), Bool.false_and, Bool.and_false] at r
        exact r rfl _ (Same.refl _)
      · walk_at "go"
        rw [decide_eq_true (p := xs.length ≤ 6) (by omega), decide_eq_true (p := 1 ≤ xs.length) (by omega), Bool.true_and, Bool.true_and] at r q
        refine lc_LN (sq_of e) l (fun D i ys H2 => H D = none ∧ Same H H2 ∧ H2 D = some (.lst ys) ∧ ys = (bs.take i).map V.bl ∧ i ≤ xs.length) (fun D hD => ⟨hD, same_new (Same.refl _) hD, upd_same, rfl, Nat.zero_le _⟩) ?_ ?_ ?_
        · rintro D i ys H2 ⟨hD, s, eD, rfl, hi⟩
          exact ⟨sq_of (s _ _ e), eD, by rw [List.length_map, List.length_take]; omega⟩
        · rintro D i v ys H2 Q2 hv ⟨hD, s, eD, rfl, hi⟩ k
          have hi := (List.getElem?_eq_some_iff.mp hv).1
          have hb : bs[i]? = some (bs[i]'(by omega)) := List.getElem?_eq_getElem (by omega)
          generalize bs[i]'(by omega) = w at hb
          walk_at "go"
          exact ⟨w, (t i v w hv hb).same s, k _ _ eD ⟨hD, same_mut s hD, upd_same, by rw [List.take_add_one, hb, List.map_append]; rfl, by omega⟩⟩
        · rintro D ys H3 ⟨hD, s, eD, rfl, -⟩
          rw [List.take_of_length_le (by omega)] at eD
          walk_at "go"
          refine g_all (bs := bs) (sq_of eD) ?_
          have e3 := s _ _ e
          walk_at "go"
          refine difNB (fun h => ?_) fun h => ?_
          · walk_at "go"
            exact r h _ s
          · walk_at "go"
            intro l2 nl2
            exact q h a xs rfl e (by omega) (by omega) l2 _ (s.free nl2) (same_new s nl2) upd_same
    · walk_at "go"
      rw [decide_eq_false (p := 1 ≤ xs.length) (by omega), Bool.false_and] at r
      exact r rfl _ (Same.refl _)
  | other t k =>
    refine g_isi (s := "") t k ?_
    walk_at "go"
    exact r rfl _ (Same.refl _)
end
/-- a look as it stands -/
abbrev Lk := Str × List Int
structure LkOk (k : Lk) : Prop where
  kind : k.1 = "even" ∨ k.1 = "quick" ∨ k.1 = "run"
  plc : Plc k.2
def LookH (H : Hp) (a : Addr) (k : Lk) : Prop := ∃ b, H a = some (.tup [.str k.1, .ref b]) ∧ H b = some (.tup (k.2.map V.int))
theorem LookH.same {H H1 : Hp} {a : Addr} {k : Lk} (h : LookH H a k) (s : Same H H1) : LookH H1 a k := by
  obtain ⟨b, h1, h2⟩ := h
  exact ⟨b, s _ _ h1, s _ _ h2⟩
theorem LookH.at_ {K : PySem.W.Frag} {H : Hp} {a : Addr} {k : Lk} (h : LookH H a k) (ok : LkOk k) : LookAt K H a k.1 k.2 := by
  obtain ⟨b, h1, h2⟩ := h
  exact ⟨b, stt_of h1, stt_of h2, ok.plc⟩
theorem rising_ok : ∀ (ps : List Int) (last : Int), (∀ z ∈ ps, last < z ∧ z ≤ 8) → ps.Pairwise (· < ·) → rising last (ps.map V.int) = true
  | [], _, _, _ => rfl
  | z :: ps, last, h, p => by
    have hz := h z List.mem_cons_self
    rw [List.pairwise_cons] at p
    show (btw (last + 1) 8 (.int z) && rising z (ps.map V.int)) = true
    rw [rising_ok ps z (fun y hy => ⟨p.1 y hy, (h y (List.mem_cons_of_mem _ hy)).2⟩) p.2, btw, decide_eq_true (by omega), decide_eq_true (by omega)]
    rfl
theorem LookH.yes {K : PySem.W.Frag} {H : Hp} {a : Addr} {k : Lk} (h : LookH H a k) (ok : LkOk k) : LkT K H (.ref a) true := by
  obtain ⟨b, h1, h2⟩ := h
  have pl := ok.plc.len
  have e := LkT.pair (K := K) h1 (PlT.tup h2 (by rw [List.length_map]; omega) fun v hv => by obtain ⟨z, _, rfl⟩ := List.mem_map.mp hv; exact .int)
  rw [decide_eq_true (by rw [List.length_map]; omega), rising_ok k.2 0 (fun z hz => by have := ok.plc.all z hz; omega) ok.plc.up] at e
  have kk : kindOk k.1 = true := by rcases ok.kind with z | z | z <;> rw [z] <;> decide +kernel
  rw [kk] at e
  exact e
/-- a list of looks -/
structure LooksH (H : Hp) (l : Addr) (as : List Addr) (ks : List Lk) : Prop where
  lst : H l = some (.lst (as.map V.ref))
  len : as.length = ks.length
  at_ : ∀ (i : Nat) a k, as[i]? = some a → ks[i]? = some k → LookH H a k
structure LksOk (ks : List Lk) : Prop where
  l1 : 1 ≤ ks.length
  l6 : ks.length ≤ 6
  all : ∀ k ∈ ks, LkOk k
theorem LooksH.same {H H1 : Hp} {l : Addr} {as : List Addr} {ks : List Lk} (h : LooksH H l as ks) (s : Same H H1) : LooksH H1 l as ks := ⟨s _ _ h.lst, h.len, fun i a k ha hk => (h.at_ i a k ha hk).same s⟩
theorem LooksH.yes {K : PySem.W.Frag} {H : Hp} {l : Addr} {as : List Addr} {ks : List Lk} (h : LooksH H l as ks) (ok : LksOk ks) : LsT K H (.ref l) true := by
  have l1 := ok.l1
  have l6 := ok.l6
  have hl := h.len
  have e := LsT.lst (K := K) (bs := as.map fun _ => true) h.lst (by rw [List.length_map]; omega) (by rw [List.length_map, List.length_map]) fun i v b hv hb => by
    obtain ⟨a, ha, rfl⟩ := map_at hv
    rw [List.getElem?_map, ha] at hb
    cases hb
    have hi := (List.getElem?_eq_some_iff.mp ha).1
    have hk : ks[i]? = some (ks[i]'(by omega)) := List.getElem?_eq_getElem (by omega)
    exact (h.at_ i a _ ha hk).yes (ok.all _ (List.mem_of_getElem? hk))
  rw [decide_eq_true (by rw [List.length_map]; omega), decide_eq_true (by rw [List.length_map]; omega)] at e
  have al : (as.map fun _ => true).all id = true := by simp
  rw [al] at e
  exact e
theorem looks_of {K : PySem.W.Frag} {H : Hp} {Q : VK} {E : XK} {l : Addr} {as : List Addr} {ks : List Lk} (h : LooksH H l as ks) (ok : LksOk ks) (q : ∀ l' H', H l' = none → Same H H' → LooksH H' l' as ks → Q (.ref l') H') : F_checked_looks K (.ref l) H Q E := by
  refine ⟨true, h.yes ok, (fun z => nomatch z), fun _ a xs ea e _ _ l' H' nl s el => ?_⟩
  cases ea
  rw [h.lst] at e
  cases e
  exact q l' H' nl s ⟨el, h.len, (h.same s).at_⟩
/-! slots: what they hold, tell and learn -/
inductive Sl where
  | even (n o : Int)
  | quick (h : Int)
  | run (b l : Int)
def slC : Sl → Str
  | .even _ _ => "Even"
  | .quick _ => "Quick"
  | .run _ _ => "Run"
def slF : Sl → List (Str × V)
  | .even n o => [("noughts", .int n), ("ones", .int o)]
  | .quick h => [("held", .int h)]
  | .run b l => [("last", .int b), ("length", .int l)]
def slO (K : PySem.W.Frag) (dx : Addr) (s : Sl) : HO := .ins (He.ga K (slC s)) dx (slF s)
def chanceS : Sl → Int
  | .even n o => (2 * o + 1) * 16777216 / (2 * (n + o) + 2)
  | .quick h => h
  | .run b l => if b = 1 then (2 * l + 1) * 16777216 / (2 * l + 2) else 16777216 - (2 * l + 1) * 16777216 / (2 * l + 2)
def evenS (n o : Int) : Sl := if n + o > 255 then .even ((n + 1) / 2) ((o + 1) / 2) else .even n o
def capQ (h : Int) : Int := if (if h < 16744448 then h else 16744448) > 32768 then (if h < 16744448 then h else 16744448) else 32768
def quickS (h b : Int) : Int := capQ (if b = 1 then h + (16777216 - h) / 16 else h - h / 16)
def seenS : Sl → Int → Sl
  | .even n o, b => if b = 1 then evenS n (o + 1) else evenS (n + 1) o
  | .quick h, b => .quick (quickS h b)
  | .run b0 l, b => if b = b0 then .run b0 (if 255 < l + 1 then 255 else l + 1) else .run b 1
def SlOk : Sl → Prop
  | .even n o => 0 ≤ n ∧ 0 ≤ o ∧ n + o ≤ 255
  | .quick h => 32768 ≤ h ∧ h ≤ 16744448
  | .run b l => 0 ≤ b ∧ b ≤ 1 ∧ 0 ≤ l ∧ l ≤ 255
theorem seenS_even {n o b : Int} : seenS (.even n o) b = if b = 1 then evenS n (o + 1) else evenS (n + 1) o := rfl
theorem seenS_quick {h b : Int} : seenS (.quick h) b = .quick (quickS h b) := rfl
theorem seenS_run {b0 l b : Int} : seenS (.run b0 l) b = if b = b0 then .run b0 (if 255 < l + 1 then 255 else l + 1) else .run b 1 := rfl
theorem chanceS_run {b l : Int} : chanceS (.run b l) = if b = 1 then (2 * l + 1) * 16777216 / (2 * l + 2) else 16777216 - (2 * l + 1) * 16777216 / (2 * l + 2) := rfl
theorem slO_even {K : PySem.W.Frag} {dx : Addr} {n o : Int} : slO K dx (.even n o) = .ins (He.ga K "Even") dx [("noughts", .int n), ("ones", .int o)] := rfl
theorem slO_quick {K : PySem.W.Frag} {dx : Addr} {h : Int} : slO K dx (.quick h) = .ins (He.ga K "Quick") dx [("held", .int h)] := rfl
theorem slO_run {K : PySem.W.Frag} {dx : Addr} {b l : Int} : slO K dx (.run b l) = .ins (He.ga K "Run") dx [("last", .int b), ("length", .int l)] := rfl
theorem evenS_ok {n o : Int} (h0 : 0 ≤ n) (h1 : 0 ≤ o) (h : n + o ≤ 256) : SlOk (evenS n o) := by
  unfold evenS
  split
  · show 0 ≤ (n + 1) / 2 ∧ 0 ≤ (o + 1) / 2 ∧ (n + 1) / 2 + (o + 1) / 2 ≤ 255
    omega
  · show 0 ≤ n ∧ 0 ≤ o ∧ n + o ≤ 255
    omega
theorem capQ_ok (h : Int) : 32768 ≤ capQ h ∧ capQ h ≤ 16744448 := by
  unfold capQ
  split <;> split <;> omega
theorem seenS_ok {s : Sl} {b : Int} (h : SlOk s) (hb : 0 ≤ b ∧ b ≤ 1) : SlOk (seenS s b) := by
  cases s with
  | even n o =>
    obtain ⟨h0, h1, h2⟩ := h
    rw [seenS_even]
    split
    · exact evenS_ok h0 (by omega) (by omega)
    · exact evenS_ok (by omega) h1 (by omega)
  | quick h => exact capQ_ok _
  | run b0 l =>
    obtain ⟨h0, h1, h2, h3⟩ := h
    rw [seenS_run]
    split
    · show 0 ≤ b0 ∧ b0 ≤ 1 ∧ 0 ≤ (if 255 < l + 1 then (255 : Int) else l + 1) ∧ (if 255 < l + 1 then (255 : Int) else l + 1) ≤ 255
      split <;> omega
    · show 0 ≤ b ∧ b ≤ 1 ∧ (0 : Int) ≤ 1 ∧ (1 : Int) ≤ 255
      omega
theorem slC_seen (s : Sl) (b : Int) : slC (seenS s b) = slC s := by
  cases s with
  | even n o => rw [seenS_even]; unfold evenS; split <;> split <;> rfl
  | quick h => rfl
  | run b0 l => rw [seenS_run]; split <;> rfl
theorem cdw_small {i j : Int} (h : 0 < j) (h2 : j < 2 ^ 40) : CDivW i j := ⟨h, by
  have : j.natAbs.log2 < 41 := (Nat.log2_lt (by omega)).mpr (by omega)
  omega⟩
section
variable (K : PySem.W.Frag)
def F_Even_init (K : PySem.W.Frag) : V → Hp → VK → XK → Prop := fun x H Q _ => ∃ a dx, x = .ref a ∧ H a = some (.ins (He.ga K "Even") dx []) ∧ Q .non (upd H a (slO K dx (.even 0 0)))
abbrev sp_Even_init (K : PySem.W.Frag) : Sp := on1 (F_Even_init K)
def F_Quick_init (K : PySem.W.Frag) : V → Hp → VK → XK → Prop := fun x H Q _ => ∃ a dx, x = .ref a ∧ H a = some (.ins (He.ga K "Quick") dx []) ∧ Q .non (upd H a (slO K dx (.quick 8388608)))
abbrev sp_Quick_init (K : PySem.W.Frag) : Sp := on1 (F_Quick_init K)
def F_Run_init (K : PySem.W.Frag) : V → Hp → VK → XK → Prop := fun x H Q _ => ∃ a dx, x = .ref a ∧ H a = some (.ins (He.ga K "Run") dx []) ∧ Q .non (upd H a (slO K dx (.run 0 0)))
abbrev sp_Run_init (K : PySem.W.Frag) : Sp := on1 (F_Run_init K)
def F_chance (K : PySem.W.Frag) (ok : Sl → Prop) : V → Hp → VK → XK → Prop := fun x H Q _ => ∃ a dx s, x = .ref a ∧ H a = some (slO K dx s) ∧ SlOk s ∧ ok s ∧ Q (.int (chanceS s)) H
def isE : Sl → Prop | .even _ _ => True | _ => False
def isQ : Sl → Prop | .quick _ => True | _ => False
def isR : Sl → Prop | .run _ _ => True | _ => False
abbrev sp_Even_chance (K : PySem.W.Frag) : Sp := on1 (F_chance K isE)
abbrev sp_Quick_chance (K : PySem.W.Frag) : Sp := on1 (F_chance K isQ)
abbrev sp_Run_chance (K : PySem.W.Frag) : Sp := on1 (F_chance K isR)
def F_seen (K : PySem.W.Frag) (ok : Sl → Prop) : V → V → Hp → VK → XK → Prop := fun x y H Q E => ∃ a dx s, x = .ref a ∧ H a = some (slO K dx s) ∧ SlOk s ∧ ok s ∧ TyW K H y ∧ (btw 0 1 y = false → E (.ref (He.ga K "NoBit")) none H) ∧
  (∀ b : Int, y = .int b → 0 ≤ b → b ≤ 1 → Q .non (upd H a (slO K dx (seenS s b))))
abbrev sp_Even_seen (K : PySem.W.Frag) : Sp := on2 (F_seen K isE)
abbrev sp_Quick_seen (K : PySem.W.Frag) : Sp := on2 (F_seen K isQ)
abbrev sp_Run_seen (K : PySem.W.Frag) : Sp := on2 (F_seen K isR)
theorem seen_of {a dx : Addr} {s : Sl} {ok : Sl → Prop} {b : Int} {H : Hp} {Q : VK} {E : XK} (ha : H a = some (slO K dx s)) (w : SlOk s) (k : ok s) (hb : 0 ≤ b ∧ b ≤ 1) (q : Q .non (upd H a (slO K dx (seenS s b)))) : F_seen K ok (.ref a) (.int b) H Q E :=
  ⟨a, dx, s, rfl, ha, w, k, .int, (fun z => by rw [btw, decide_eq_true hb.1, decide_eq_true hb.2] at z; cases z), fun b' e _ _ => by cases e; exact q⟩
end
section
variable (K : PySem.W.Frag) [HasCls K "Even"] [HasNo K "Even" "noughts"] [HasNo K "Even" "ones"]
def t_Even_init (K : PySem.W.Frag) (E : XK) : TS :=
  tSeq (sFld K (tVar 0) (tC (.int 0)) "noughts")
  (sFld K (tVar 0) (tC (.int 0)) "ones")
theorem pure_Even_init {x : V} {H : Hp} {Q : VK} {E : XK} (h : F_Even_init K x H Q E) : t_Even_init K E ⟨fun _ H' => Q .non H', Q, fun _ _ => False, fun _ _ => False⟩ [some x] H := by
  obtain ⟨a, dx, rfl, ha, q⟩ := h
  unfold t_Even_init
  walk_at "go"
  exact q
def t_Even_chance (K : PySem.W.Frag) (E : XK) : TS :=
  tRet (tOp (rFloor) (tOp (rTimes) (tOp (rPlus K) (tOp (rTimes) (tC (.int 2)) (tFld K (tVar 0) "ones")) (tC (.int 1))) (tC (.int 16777216))) (tOp (rPlus K) (tOp (rTimes) (tC (.int 2)) (tOp (rPlus K) (tFld K (tVar 0) "noughts") (tFld K (tVar 0) "ones"))) (tC (.int 2))))
theorem pure_Even_chance {x : V} {H : Hp} {Q : VK} {E : XK} (h : F_chance K isE x H Q E) : t_Even_chance K E ⟨fun _ H' => Q .non H', Q, fun _ _ => False, fun _ _ => False⟩ [some x] H := by
  obtain ⟨a, dx, s, rfl, ha, w, k, q⟩ := h
  cases s with
  | even n o =>
    obtain ⟨h0, h1, h2⟩ := w
    rw [slO_even] at ha
    unfold t_Even_chance
    walk_at "go"
    exact g_floor (cdw_small (by omega) (by omega)) q
  | _ => exact k.elim
def t_Even_seen (K : PySem.W.Frag) (E : XK) : TS :=
  tSeq (tIfS (tTest (tOp (rSame K) (tFun (sp_checked_bit K) [] (fun _ => E) (tCons (tVar 1) (tNil))) (tC (.int 1)))) (sFldAug K (tVar 0) (tC (.int 1)) L2.rAdd "ones") (sFldAug K (tVar 0) (tC (.int 1)) L2.rAdd "noughts"))
  (tIfS (tTest (tOp (iGt) (tOp (rPlus K) (tFld K (tVar 0) "noughts") (tFld K (tVar 0) "ones")) (tC (.int 255)))) (tSeq (sFld K (tVar 0) (tOp (rFloor) (tOp (rPlus K) (tFld K (tVar 0) "noughts") (tC (.int 1))) (tC (.int 2))) "noughts")
  (sFld K (tVar 0) (tOp (rFloor) (tOp (rPlus K) (tFld K (tVar 0) "ones") (tC (.int 1))) (tC (.int 2))) "ones")) (tNext))
theorem pure_Even_seen {x y : V} {H : Hp} {Q : VK} {E : XK} (h : F_seen K isE x y H Q E) : t_Even_seen K E ⟨fun _ H' => Q .non H', Q, fun _ _ => False, fun _ _ => False⟩ [some x, some y] H := by
  obtain ⟨a, dx, s, rfl, ha, w, k, ty, r, q⟩ := h
  cases s with
  | even n o =>
    obtain ⟨h0, h1, h2⟩ := w
    rw [slO_even] at ha
    unfold t_Even_seen
    walk_at "go"
    refine ⟨ty, fun hy => ?_, r⟩
    obtain ⟨b, rfl, b1, b2⟩ := btw_int hy
    have q := q b rfl b1 b2
    rw [seenS_even] at q
    unfold evenS at q
    walk_at "go"
    refine dif (fun hb => ?_) fun hb => ?_
    · rw [if_pos hb] at q
      walk_at "go"
      refine dif (fun hc => ?_) fun hc => ?_
      · rw [if_pos hc] at q
        walk_at "go"
        exact q
      · rw [if_neg hc] at q
        walk_at "go"
        exact q
    · rw [if_neg hb] at q
      walk_at "go"
      refine dif (fun hc => ?_) fun hc => ?_
      · rw [if_pos hc] at q
        walk_at "go"
        exact q
      · rw [if_neg hc] at q
        walk_at "go"
        exact q
  | _ => exact k.elim
end
section
variable (K : PySem.W.Frag) [HasCls K "Quick"] [HasNo K "Quick" "held"]
def t_Quick_init (K : PySem.W.Frag) (E : XK) : TS :=
  sFld K (tVar 0) (tOp (rFloor) (tC (.int 16777216)) (tC (.int 2))) "held"
theorem pure_Quick_init {x : V} {H : Hp} {Q : VK} {E : XK} (h : F_Quick_init K x H Q E) : t_Quick_init K E ⟨fun _ H' => Q .non H', Q, fun _ _ => False, fun _ _ => False⟩ [some x] H := by
  obtain ⟨a, dx, rfl, ha, q⟩ := h
  unfold t_Quick_init
  walk_at "go"
  exact q
def t_Quick_chance (K : PySem.W.Frag) (E : XK) : TS :=
  tRet (tFld K (tVar 0) "held")
theorem pure_Quick_chance {x : V} {H : Hp} {Q : VK} {E : XK} (h : F_chance K isQ x H Q E) : t_Quick_chance K E ⟨fun _ H' => Q .non H', Q, fun _ _ => False, fun _ _ => False⟩ [some x] H := by
  obtain ⟨a, dx, s, rfl, ha, w, k, q⟩ := h
  cases s with
  | quick h =>
    rw [slO_quick] at ha
    unfold t_Quick_chance
    walk_at "go"
    exact q
  | _ => exact k.elim
def t_Quick_seen (K : PySem.W.Frag) (E : XK) : TS :=
  tSeq (tIfS (tTest (tOp (rSame K) (tFun (sp_checked_bit K) [] (fun _ => E) (tCons (tVar 1) (tNil))) (tC (.int 1)))) (sFldAug K (tVar 0) (tOp (rFloor) (tOp (rMinus) (tC (.int 16777216)) (tFld K (tVar 0) "held")) (tC (.int 16))) L2.rAdd "held") (sFldAug K (tVar 0) (tOp (rFloor) (tFld K (tVar 0) "held") (tC (.int 16))) L2.rSub "held"))
  (sFld K (tVar 0) (tCB (rGreatest K) (tCons (tC (.int 32768)) (tCons (tCB (rLeast K) (tCons (tOp (rMinus) (tC (.int 16777216)) (tC (.int 32768))) (tCons (tFld K (tVar 0) "held") (tNil)))) (tNil)))) "held")
theorem pure_Quick_seen {x y : V} {H : Hp} {Q : VK} {E : XK} (h : F_seen K isQ x y H Q E) : t_Quick_seen K E ⟨fun _ H' => Q .non H', Q, fun _ _ => False, fun _ _ => False⟩ [some x, some y] H := by
  obtain ⟨a, dx, s, rfl, ha, w, k, ty, r, q⟩ := h
  cases s with
  | quick h =>
    rw [slO_quick] at ha
    unfold t_Quick_seen
    walk_at "go"
    refine ⟨ty, fun hy => ?_, r⟩
    obtain ⟨b, rfl, b1, b2⟩ := btw_int hy
    have q := q b rfl b1 b2
    rw [seenS_quick] at q
    unfold quickS at q
    walk_at "go"
    refine dif (fun hb => ?_) fun hb => ?_
    · rw [if_pos hb] at q
      walk_at "go"
      exact q
    · rw [if_neg hb] at q
      walk_at "go"
      exact q
  | _ => exact k.elim
end
section
variable (K : PySem.W.Frag) [HasCls K "Run"] [HasNo K "Run" "last"] [HasNo K "Run" "length"]
def t_Run_init (K : PySem.W.Frag) (E : XK) : TS :=
  tSeq (sFld K (tVar 0) (tC (.int 0)) "last")
  (sFld K (tVar 0) (tC (.int 0)) "length")
theorem pure_Run_init {x : V} {H : Hp} {Q : VK} {E : XK} (h : F_Run_init K x H Q E) : t_Run_init K E ⟨fun _ H' => Q .non H', Q, fun _ _ => False, fun _ _ => False⟩ [some x] H := by
  obtain ⟨a, dx, rfl, ha, q⟩ := h
  unfold t_Run_init
  walk_at "go"
  exact q
def t_Run_chance (K : PySem.W.Frag) (E : XK) : TS :=
  tSeq (tAsg (tOp (rFloor) (tOp (rTimes) (tOp (rPlus K) (tOp (rTimes) (tC (.int 2)) (tFld K (tVar 0) "length")) (tC (.int 1))) (tC (.int 16777216))) (tOp (rPlus K) (tOp (rTimes) (tC (.int 2)) (tFld K (tVar 0) "length")) (tC (.int 2)))) (gName 1))
  (tSeq (tIfS (tTest (tOp (rSame K) (tFld K (tVar 0) "last") (tC (.int 1)))) (tRet (tVar 1)) (tNext))
  (tRet (tOp (rMinus) (tC (.int 16777216)) (tVar 1))))
theorem pure_Run_chance {x : V} {H : Hp} {Q : VK} {E : XK} (h : F_chance K isR x H Q E) : t_Run_chance K E ⟨fun _ H' => Q .non H', Q, fun _ _ => False, fun _ _ => False⟩ [some x, none] H := by
  obtain ⟨a, dx, s, rfl, ha, w, k, q⟩ := h
  cases s with
  | run b l =>
    obtain ⟨h0, h1, h2, h3⟩ := w
    rw [slO_run] at ha
    rw [chanceS_run] at q
    unfold t_Run_chance
    walk_at "go"
    refine g_floor (cdw_small (by omega) (by omega)) ?_
    walk_at "go"
    refine dif (fun hb => ?_) fun hb => ?_
    · rw [if_pos hb] at q
      walk_at "go"
      exact q
    · rw [if_neg hb] at q
      walk_at "go"
      exact q
  | _ => exact k.elim
def t_Run_seen (K : PySem.W.Frag) (E : XK) : TS :=
  tIfS (tTest (tOp (rSame K) (tFun (sp_checked_bit K) [] (fun _ => E) (tCons (tVar 1) (tNil))) (tFld K (tVar 0) "last"))) (sFld K (tVar 0) (tCB (rLeast K) (tCons (tOp (rPlus K) (tFld K (tVar 0) "length") (tC (.int 1))) (tCons (tC (.int 255)) (tNil)))) "length") (tSeq (sFld K (tVar 0) (tVar 1) "last")
  (sFld K (tVar 0) (tC (.int 1)) "length"))
theorem pure_Run_seen {x y : V} {H : Hp} {Q : VK} {E : XK} (h : F_seen K isR x y H Q E) : t_Run_seen K E ⟨fun _ H' => Q .non H', Q, fun _ _ => False, fun _ _ => False⟩ [some x, some y] H := by
  obtain ⟨a, dx, s, rfl, ha, w, k, ty, r, q⟩ := h
  cases s with
  | run b0 l =>
    obtain ⟨h0, h1, h2, h3⟩ := w
    rw [slO_run] at ha
    unfold t_Run_seen
    walk_at "go"
    refine ⟨ty, fun hy => ?_, r⟩
    obtain ⟨b, rfl, b1, b2⟩ := btw_int hy
    have q := q b rfl b1 b2
    rw [seenS_run] at q
    walk_at "go"
    refine dif (fun hb => ?_) fun hb => ?_
    · rw [if_pos hb] at q
      walk_at "go"
      exact q
    · rw [if_neg hb] at q
      walk_at "go"
      exact q
  | _ => exact k.elim
end
theorem pick_chance {K : PySem.W.Frag} {H : Hp} {a dx : Addr} {s : Sl} {A : Sp → Prop} (h : H a = some (slO K dx s)) (hA : ∀ ok : Sl → Prop, ok s → A (on1 (F_chance K ok))) :
    mthK "chance" (orM (one (He.ga K "Even") (sp_Even_chance K)) (orM (one (He.ga K "Quick") (sp_Quick_chance K)) (one (He.ga K "Run") (sp_Run_chance K)))) (.ref a) H A := by
  cases s with
  | even n o => exact g_orA (g_one h rfl (hA _ trivial))
  | quick h' => exact g_orB (g_orA (g_one h rfl (hA _ trivial)))
  | run b l => exact g_orB (g_orB (g_one h rfl (hA _ trivial)))
theorem pick_seen {K : PySem.W.Frag} {H : Hp} {a dx : Addr} {s : Sl} {A : Sp → Prop} (h : H a = some (slO K dx s)) (hA : ∀ ok : Sl → Prop, ok s → A (on2 (F_seen K ok))) :
    mthK "seen" (orM (one (He.ga K "Even") (sp_Even_seen K)) (orM (one (He.ga K "Quick") (sp_Quick_seen K)) (one (He.ga K "Run") (sp_Run_seen K)))) (.ref a) H A := by
  cases s with
  | even n o => exact g_orA (g_one h rfl (hA _ trivial))
  | quick h' => exact g_orB (g_orA (g_one h rfl (hA _ trivial)))
  | run b l => exact g_orB (g_orB (g_one h rfl (hA _ trivial)))
def kindS : Sl → Str
  | .even _ _ => "even"
  | .quick _ => "quick"
  | .run _ _ => "run"
/-- a slot of a kind's name, fresh -/
def new0 (kind : Str) : Sl := if kind = "even" then .even 0 0 else if kind = "quick" then .quick 8388608 else .run 0 0
def F_slot_of (K : PySem.W.Frag) : V → Hp → VK → XK → Prop := fun x H Q _ => ∃ kind : Str, x = .str kind ∧ ∀ a dx H', H a = none → Same H H' → H' a = some (slO K dx (new0 kind)) → Q (.ref a) H'
abbrev sp_slot_of (K : PySem.W.Frag) : Sp := on1 (F_slot_of K)
theorem new0_ok (kind : Str) : SlOk (new0 kind) := by
  unfold new0
  split
  · exact ⟨by decide, by decide, by decide⟩
  · split
    · exact ⟨by decide, by decide⟩
    · exact ⟨by decide, by decide, by decide, by decide⟩
def t_slot_of (K : PySem.W.Frag) (E : XK) : TS :=
  tSeq (tIfS (tTest (tOp (rSame K) (tVar 0) (tC (.str "even")))) (tRet (tNew (He.ga K "Even") (sp_Even_init K) [] (fun _ => E) (tNil))) (tNext))
  (tSeq (tIfS (tTest (tOp (rSame K) (tVar 0) (tC (.str "quick")))) (tRet (tNew (He.ga K "Quick") (sp_Quick_init K) [] (fun _ => E) (tNil))) (tNext))
  (tRet (tNew (He.ga K "Run") (sp_Run_init K) [] (fun _ => E) (tNil))))
theorem pure_slot_of (K : PySem.W.Frag) {x : V} {H : Hp} {Q : VK} {E : XK} (h : F_slot_of K x H Q E) : t_slot_of K E ⟨fun _ H' => Q .non H', Q, fun _ _ => False, fun _ _ => False⟩ [some x] H := by
  obtain ⟨kind, rfl, q⟩ := h
  unfold t_slot_of
  walk_at "go"
  refine dif (fun h1 => ?_) fun h1 => ?_
  · walk_at "go"
    intro a dx na ndx nad
    walk_at "go"
    refine ⟨a, dx, rfl, upd_same, rfl, ?_⟩
    rw [upd_upd]
    exact q a dx _ na (by walk_at "sm") (by rw [upd_same, new0, if_pos h1])
  · walk_at "go"
    refine dif (fun h2 => ?_) fun h2 => ?_
    · walk_at "go"
      intro a dx na ndx nad
      walk_at "go"
      refine ⟨a, dx, rfl, upd_same, rfl, ?_⟩
      rw [upd_upd]
      exact q a dx _ na (by walk_at "sm") (by rw [upd_same, new0, if_neg h1, if_pos h2])
    · walk_at "go"
      intro a dx na ndx nad
      walk_at "go"
      refine ⟨a, dx, rfl, upd_same, rfl, ?_⟩
      rw [upd_upd]
      exact q a dx _ na (by walk_at "sm") (by rw [upd_same, new0, if_neg h1, if_neg h2])
/-! a book: its slots by contexts -/
def kc (c : List Int) : List Key := c.map Sum.inl
theorem kc_inj {c d : List Int} (h : kc c = kc d) : c = d := (List.map_inj_right fun _ _ h => Sum.inl.inj h).mp h
theorem kc_v (c : List Int) : (kc c).map kV = c.map V.int := by unfold kc; rw [List.map_map]; rfl
abbrev BkF := List Int → Sl
def fresh (kind : Str) : BkF := fun _ => new0 kind
def updB (f : BkF) (c : List Int) (s : Sl) : BkF := fun d => if d = c then s else f d
/-- neither a list nor a tuple -/
structure MutO (o : HO) : Prop where
  t : ∀ xs, o ≠ .tup xs
  l : ∀ xs, o ≠ .lst xs
theorem MutO.sl {K : PySem.W.Frag} {dx : Addr} {s : Sl} : MutO (slO K dx s) := ⟨fun xs z => (by cases s <;> cases z), fun xs z => (by cases s <;> cases z)⟩
theorem MutO.ins {C dx : Addr} {fs : List (Str × V)} : MutO (.ins C dx fs) := ⟨fun xs z => (by cases z), fun xs z => (by cases z)⟩
theorem MutO.dT {kvs : List (List Key × V)} : MutO (.dT kvs) := ⟨fun xs z => (by cases z), fun xs z => (by cases z)⟩
abbrev bookF (la d : Addr) : List (Str × V) := [("look", .ref la), ("slots", .ref d)]
theorem book_ne {K : PySem.W.Frag} {C dx sx la d : Addr} {s : Sl} : HO.ins C dx (bookF la d) ≠ slO K sx s := fun z => by
  have z := (HO.ins.inj z).2.2
  cases s <;> simp [bookF, slF] at z
structure BookX (K : PySem.W.Frag) (H : Hp) (a dx la d : Addr) (kvs : List (List Key × V)) (Fp : Addr → Prop) (k : Lk) (f : BkF) (n : Nat) : Prop where
  ins : H a = some (.ins (He.ga K "Book") dx (bookF la d))
  look : LookH H la k
  dic : H d = some (.dT kvs)
  len : kvs.length ≤ n
  fa : Fp a
  fd : Fp d
  non : ∀ c, valV kvs (kc c) = none → f c = new0 k.1
  som : ∀ c v, valV kvs (kc c) = some v → ∃ s sx, v = .ref s ∧ H s = some (slO K sx (f c)) ∧ Fp s
  inj : ∀ c c' s, valV kvs (kc c) = some (.ref s) → valV kvs (kc c') = some (.ref s) → c = c'
  ok : ∀ c, SlOk (f c)
  dom : ∀ b, Fp b → ∃ o, H b = some o ∧ MutO o
def BookAt (K : PySem.W.Frag) (H : Hp) (a : Addr) (Fp : Addr → Prop) (k : Lk) (f : BkF) (n : Nat) : Prop := ∃ dx la d kvs, BookX K H a dx la d kvs Fp k f n
theorem LookH.keep {M : Addr → Prop} {H H1 : Hp} {a : Addr} {k : Lk} (h : LookH H a k) (s : SameX M H H1) (nt : ∀ b xs, H b = some (.tup xs) → ¬ M b) : LookH H1 a k := by
  obtain ⟨b, h1, h2⟩ := h
  exact ⟨b, s.kp _ _ (nt _ _ h1) h1, s.kp _ _ (nt _ _ h2) h2⟩
theorem BookX.keep {K : PySem.W.Frag} {H H1 : Hp} {a dx la d : Addr} {kvs : List (List Key × V)} {Fp M : Addr → Prop} {k : Lk} {f : BkF} {n : Nat} (h : BookX K H a dx la d kvs Fp k f n) (s : SameX M H H1) (dj : ∀ b, Fp b → ¬ M b) (nt : ∀ b xs, H b = some (.tup xs) → ¬ M b) : BookX K H1 a dx la d kvs Fp k f n :=
  ⟨s.kp _ _ (dj _ h.fa) h.ins, h.look.keep s nt, s.kp _ _ (dj _ h.fd) h.dic, h.len, h.fa, h.fd, h.non, fun c v hv => by
    obtain ⟨x, sx, e, hx, fx⟩ := h.som c v hv
    exact ⟨x, sx, e, s.kp _ _ (dj _ fx) hx, fx⟩, h.inj, h.ok, fun b hb => by
    obtain ⟨o, ho, m⟩ := h.dom b hb
    exact ⟨o, s.kp _ _ (dj _ hb) ho, m⟩⟩
theorem BookAt.keep {K : PySem.W.Frag} {H H1 : Hp} {a : Addr} {Fp M : Addr → Prop} {k : Lk} {f : BkF} {n : Nat} (h : BookAt K H a Fp k f n) (s : SameX M H H1) (dj : ∀ b, Fp b → ¬ M b) (nt : ∀ b xs, H b = some (.tup xs) → ¬ M b) : BookAt K H1 a Fp k f n := by
  obtain ⟨dx, la, d, kvs, h⟩ := h
  exact ⟨dx, la, d, kvs, h.keep s dj nt⟩
theorem BookAt.same {K : PySem.W.Frag} {H H1 : Hp} {a : Addr} {Fp : Addr → Prop} {k : Lk} {f : BkF} {n : Nat} (h : BookAt K H a Fp k f n) (s : Same H H1) : BookAt K H1 a Fp k f n := h.keep (M := fun _ => False) (SameX.of s) (fun _ _ z => z) fun _ _ _ z => z
theorem BookAt.dom {K : PySem.W.Frag} {H : Hp} {a : Addr} {Fp : Addr → Prop} {k : Lk} {f : BkF} {n : Nat} (h : BookAt K H a Fp k f n) : ∀ b, Fp b → ∃ o, H b = some o ∧ MutO o := by
  obtain ⟨dx, la, d, kvs, h⟩ := h
  exact h.dom
/-- a list's place is in no book -/
theorem BookAt.nl {K : PySem.W.Frag} {H : Hp} {a c : Addr} {Fp : Addr → Prop} {k : Lk} {f : BkF} {n : Nat} {xs : List V} (h : BookAt K H a Fp k f n) (e : H c = some (.lst xs)) : ¬ Fp c := fun z => by
  obtain ⟨o, ho, m⟩ := h.dom _ z
  rw [e] at ho
  cases ho
  exact m.l _ rfl
theorem BookAt.nt {K : PySem.W.Frag} {H : Hp} {a c : Addr} {Fp : Addr → Prop} {k : Lk} {f : BkF} {n : Nat} {xs : List V} (h : BookAt K H a Fp k f n) (e : H c = some (.tup xs)) : ¬ Fp c := fun z => by
  obtain ⟨o, ho, m⟩ := h.dom _ z
  rw [e] at ho
  cases ho
  exact m.t _ rfl
theorem g_dput {σ : St} {H : Hp} {td ty tv : TE} {n : St → Hp → Prop} {rt : VK} {bk ct : St → Hp → Prop} (q : tv σ H fun v H1 => td σ H1 fun x H2 => ty σ H2 fun y H3 => ∃ a H4, x = .ref a ∧ DPut H3 a y v H4 ∧ n σ H4) : sDPut td ty tv ⟨n, rt, bk, ct⟩ σ H := q
theorem g_dnewT {σ : St} {H : Hp} {Q : VK} (q : ∀ p, H p = none → Q (.ref p) (upd H p (.dT []))) : tDNewT σ H Q := q
section
variable (K : PySem.W.Frag) [HasCls K "Book"] [HasNo K "Book" "look"] [HasNo K "Book" "slots"]
def F_Book_init (K : PySem.W.Frag) : V → V → Hp → VK → XK → Prop := fun x y H Q _ => ∃ (a dx la : Addr) (k : Lk), x = .ref a ∧ y = .ref la ∧ H a = some (.ins (He.ga K "Book") dx []) ∧ LookH H la k ∧
  ∀ Fp H', (∀ b, Fp b → b = a ∨ H b = none) → SameX (· = a) H H' → BookAt K H' a Fp k (fresh k.1) 0 → Q .non H'
abbrev sp_Book_init (K : PySem.W.Frag) : Sp := on2 (F_Book_init K)
def t_Book_init (K : PySem.W.Frag) (E : XK) : TS :=
  tSeq (sFld K (tVar 0) (tVar 1) "look")
  (sFld K (tVar 0) (tDNewT) "slots")
theorem pure_Book_init {x y : V} {H : Hp} {Q : VK} {E : XK} (h : F_Book_init K x y H Q E) : t_Book_init K E ⟨fun _ H' => Q .non H', Q, fun _ _ => False, fun _ _ => False⟩ [some x, some y] H := by
  obtain ⟨a, dx, la, k, rfl, rfl, ha, ⟨b, e1, e2⟩, q⟩ := h
  unfold t_Book_init
  walk_at "go"
  refine g_dnewT fun p np => ?_
  walk_at "go"
  have nla : la ≠ a := ne_kind e1 ha (by intro z; cases z)
  have nba : b ≠ a := ne_kind e2 ha (by intro z; cases z)
  have npH := upd_none np
  have npa : p ≠ a := fun z => by rw [z, upd_same] at np; cases np
  refine q (fun b => b = a ∨ b = p) _ (fun b hb => by rcases hb with rfl | rfl
                                                      · exact .inl rfl
                                                      · exact .inr npH) ((((SameX.refl (M := (· = a)) H).mut (a := a) rfl).new np).mut (a := a) rfl) ⟨dx, la, p, [], ⟨upd_same, ⟨b, ?_, ?_⟩, lk_mut npa upd_same, Nat.le_refl _, .inl rfl, .inr rfl, fun _ _ => rfl, (fun _ _ z => nomatch z), (fun _ _ _ z => nomatch z), fun _ => new0_ok _, ?_⟩⟩
  · exact lk_mut nla (lk_new (lk_mut nla e1) np)
  · exact lk_mut nba (lk_new (lk_mut nba e2) np)
  · rintro b (rfl | rfl)
    · exact ⟨_, upd_same, MutO.ins⟩
    · exact ⟨_, lk_mut npa upd_same, MutO.dT⟩
def F_Book_chance (K : PySem.W.Frag) : V → V → V → Hp → VK → XK → Prop := fun x y z H Q _ => ∃ (a c : Addr) (Fp : Addr → Prop) (k : Lk) (f : BkF) (n : Nat) (ns : List Int) (node : Int), x = .ref a ∧ y = .ref c ∧ z = .int node ∧ BookAt K H a Fp k f n ∧ LkOk k ∧ SqL K H c (ns.map V.int) ∧
  ∀ H', Same H H' → Q (.int (chanceS (f (ctx k.2 ns node)))) H'
abbrev sp_Book_chance (K : PySem.W.Frag) : Sp := on3 (F_Book_chance K)
def t_Book_chance (K : PySem.W.Frag) (E : XK) : TS :=
  tSeq (tAsg (tFun (sp_context_of K) [] (fun _ => E) (tCons (tFld K (tVar 0) "look") (tCons (tVar 1) (tCons (tVar 2) (tNil))))) (gName 3))
  (tSeq (tIfS (tB (tDIn (tVar 3) (tFld K (tVar 0) "slots"))) (tRet (tMth "chance" (orM (one (He.ga K "Even") (sp_Even_chance K)) (orM (one (He.ga K "Quick") (sp_Quick_chance K)) (one (He.ga K "Run") (sp_Run_chance K)))) (fun _ => E) (tDGet (tFld K (tVar 0) "slots") (tVar 3)) (tNil))) (tNext))
  (tRet (tMth "chance" (orM (one (He.ga K "Even") (sp_Even_chance K)) (orM (one (He.ga K "Quick") (sp_Quick_chance K)) (one (He.ga K "Run") (sp_Run_chance K)))) (fun _ => E) (tFun (sp_slot_of K) [] (fun _ => E) (tCons (tOp (rIx K) (tFld K (tVar 0) "look") (tC (.int 0))) (tNil))) (tNil))))
theorem pure_Book_chance {x y z : V} {H : Hp} {Q : VK} {E : XK} (h : F_Book_chance K x y z H Q E) : t_Book_chance K E ⟨fun _ H' => Q .non H', Q, fun _ _ => False, fun _ _ => False⟩ [some x, some y, some z, none] H := by
  obtain ⟨a, c, Fp, k, f, n, ns, node, rfl, rfl, rfl, ⟨dx, la, d, kvs, B⟩, ok, hc, q⟩ := h
  have ha := B.ins
  unfold t_Book_chance
  walk_at "go"
  refine ⟨la, c, k.1, k.2, ns, node, rfl, rfl, rfl, B.look.at_ ok, hc, fun p H1 np s1 ep => ?_⟩
  generalize ctx k.2 ns node = cx at ep q
  have B1 := B.keep (M := fun _ => False) (SameX.of s1) (fun _ _ z => z) fun _ _ _ z => z
  have ha := B1.ins
  have g : DGet H1 d (.ref p) (valV kvs (kc cx)) := DGet.t B1.dic (by rw [kc_v]; exact ep)
  walk_at "go"
  refine ⟨d, _, rfl, g, ?_⟩
  refine g_ebl ?_
  cases e : valV kvs (kc cx) with
  | none =>
    refine g_ifF ?_
    obtain ⟨b, e1, e2⟩ := B1.look
    walk_at "go"
    refine ⟨k.1, rfl, fun s sx H2 ns2 s2 es => ?_⟩
    refine pick_chance es fun ok w => ?_
    walk_at "go"
    refine ⟨s, sx, _, rfl, es, new0_ok _, w, ?_⟩
    rw [B.non _ e] at q
    exact q _ (Same.trans s1 s2)
  | some v =>
    obtain ⟨s, sx, rfl, es, fs⟩ := B1.som _ _ e
    rw [e] at g
    refine g_ifT ?_
    walk_at "go"
    refine ⟨d, _, rfl, g, ?_⟩
    refine pick_chance es fun ok w => ?_
    walk_at "go"
    exact ⟨s, sx, _, rfl, es, B.ok _, w, q _ s1⟩
def F_Book_seen (K : PySem.W.Frag) : V → V → V → V → Hp → VK → XK → Prop := fun x y z u H Q E => ∃ (a c : Addr) (Fp : Addr → Prop) (k : Lk) (f : BkF) (n : Nat) (ns : List Int) (node : Int), x = .ref a ∧ y = .ref c ∧ z = .int node ∧ BookAt K H a Fp k f n ∧ n ≤ 900000 ∧ LkOk k ∧ SqL K H c (ns.map V.int) ∧ TyW K H u ∧
  (btw 0 1 u = false → E (.ref (He.ga K "NoBit")) none H) ∧ ∀ b : Int, u = .int b → 0 ≤ b → b ≤ 1 → ∀ Fp' H', SameX Fp H H' → (∀ x, Fp' x → Fp x ∨ H x = none) → BookAt K H' a Fp' k (updB f (ctx k.2 ns node) (seenS (f (ctx k.2 ns node)) b)) (n + 1) → Q .non H'
abbrev sp_Book_seen (K : PySem.W.Frag) : Sp := on4 (F_Book_seen K)
def t_Book_seen (K : PySem.W.Frag) (E : XK) : TS :=
  tSeq (tDrop (tFun (sp_checked_bit K) [] (fun _ => E) (tCons (tVar 3) (tNil))))
  (tSeq (tAsg (tFun (sp_context_of K) [] (fun _ => E) (tCons (tFld K (tVar 0) "look") (tCons (tVar 1) (tCons (tVar 2) (tNil))))) (gName 4))
  (tSeq (tIfS (tB (tDNotIn (tVar 4) (tFld K (tVar 0) "slots"))) (sDPut (tFld K (tVar 0) "slots") (tVar 4) (tFun (sp_slot_of K) [] (fun _ => E) (tCons (tOp (rIx K) (tFld K (tVar 0) "look") (tC (.int 0))) (tNil)))) (tNext))
  (tDrop (tMth "seen" (orM (one (He.ga K "Even") (sp_Even_seen K)) (orM (one (He.ga K "Quick") (sp_Quick_seen K)) (one (He.ga K "Run") (sp_Run_seen K)))) (fun _ => E) (tDGet (tFld K (tVar 0) "slots") (tVar 4)) (tCons (tVar 3) (tNil))))))
theorem pure_Book_seen {x y z u : V} {H : Hp} {Q : VK} {E : XK} (h : F_Book_seen K x y z u H Q E) : t_Book_seen K E ⟨fun _ H' => Q .non H', Q, fun _ _ => False, fun _ _ => False⟩ [some x, some y, some z, some u, none] H := by
  obtain ⟨a, c, Fp, k, f, n, ns, node, rfl, rfl, rfl, ⟨dx, la, d, kvs, B⟩, hn, ok, hc, tu, r, q⟩ := h
  have ha := B.ins
  unfold t_Book_seen
  walk_at "go"
  refine ⟨tu, fun hu => ?_, r⟩
  obtain ⟨b, rfl, b1, b2⟩ := btw_int hu
  have q := q b rfl b1 b2
  walk_at "go"
  refine ⟨la, c, k.1, k.2, ns, node, rfl, rfl, rfl, B.look.at_ ok, hc, fun p H1 np s1 ep => ?_⟩
  generalize ctx k.2 ns node = cx at ep q
  have B1 := B.keep (M := fun _ => False) (SameX.of s1) (fun _ _ z => z) fun _ _ _ z => z
  have ha := B1.ins
  have g : DGet H1 d (.ref p) (valV kvs (kc cx)) := DGet.t B1.dic (by rw [kc_v]; exact ep)
  have tail : ∀ H3 kvs3 (Fp3 : Addr → Prop) s, SameX Fp H H3 → (∀ x, Fp3 x → Fp x ∨ H x = none) → H3 p = some (.tup (cx.map V.int)) → BookX K H3 a dx la d kvs3 Fp3 k f (n + 1) → valV kvs3 (kc cx) = some (.ref s) →
      (tDrop (tMth "seen" (orM (one (He.ga K "Even") (sp_Even_seen K)) (orM (one (He.ga K "Quick") (sp_Quick_seen K)) (one (He.ga K "Run") (sp_Run_seen K)))) (fun _ => E) (tDGet (tFld K (tVar 0) "slots") (tVar 4)) (tCons (tVar 3) (tNil))))
      ⟨fun _ H' => Q .non H', Q, fun _ _ => False, fun _ _ => False⟩ [some (.ref a), some (.ref c), some (.int node), some (.int b), some (.ref p)] H3 := by
    intro H3 kvs3 Fp3 s S grow ep B3 e
    have ha := B3.ins
    obtain ⟨s', sx, es', es, fs⟩ := B3.som _ _ e
    cases es'
    have g : DGet H3 d (.ref p) (some (.ref s)) := by rw [← e]; exact DGet.t B3.dic (by rw [kc_v]; exact ep)
    walk_at "go"
    refine ⟨d, _, rfl, g, ?_⟩
    refine pick_seen es fun ok w => ?_
    walk_at "go"
    refine seen_of K es (B3.ok _) w ⟨b1, b2⟩ ?_
    have nea : a ≠ s := ne_kind ha es book_ne
    have ned : d ≠ s := ne_kind B3.dic es (by intro z; cases hf : f cx <;> (rw [hf] at z; cases z))
    have S4 : SameX Fp H (upd H3 s (slO K sx (seenS (f cx) b))) := by
      rcases grow _ fs with z | z
      · exact S.mut z
      · exact S.newmut z
    refine q Fp3 _ S4 grow ⟨dx, la, d, kvs3, ⟨lk_mut nea B3.ins, ?_, lk_mut ned B3.dic, B3.len, B3.fa, B3.fd, fun c' hc' => ?_, fun c' v hv => ?_, B3.inj, fun c' => ?_, fun x hx => ?_⟩⟩
    · obtain ⟨t, t1, t2⟩ := B3.look
      exact ⟨t, lk_mut (ne_kind t1 es (fun z => MutO.sl.t _ z.symm)) t1, lk_mut (ne_kind t2 es (fun z => MutO.sl.t _ z.symm)) t2⟩
    · unfold updB
      rw [if_neg (fun z => by rw [z, e] at hc'; cases hc')]
      exact B3.non _ hc'
    · obtain ⟨x, xx, rfl, hx, fx⟩ := B3.som _ _ hv
      by_cases z : c' = cx
      · subst z
        rw [e] at hv
        cases hv
        exact ⟨s, sx, rfl, by rw [upd_same]; unfold updB; rw [if_pos rfl], fx⟩
      · have nx : x ≠ s := fun y => z (B3.inj _ _ s (by rw [← y]; exact hv) e)
        exact ⟨x, xx, rfl, by rw [upd_ne nx, hx]; unfold updB; rw [if_neg z], fx⟩
    · unfold updB
      split
      · exact seenS_ok (B3.ok _) ⟨b1, b2⟩
      · exact B3.ok _
    · obtain ⟨o, ho, m⟩ := B3.dom x hx
      by_cases z : x = s
      · exact ⟨_, by rw [z, upd_same], MutO.sl⟩
      · exact ⟨o, lk_mut z ho, m⟩
  walk_at "go"
  refine ⟨d, _, rfl, g, ?_⟩
  refine g_ebl ?_
  cases e : valV kvs (kc cx) with
  | none =>
    refine g_ifT ?_
    obtain ⟨lb, e1, e2⟩ := B1.look
    refine g_dput ?_
    walk_at "go"
    refine ⟨k.1, rfl, fun s sx H2 ns2 s2 es => ?_⟩
    have B2 := B1.keep (M := fun _ => False) (SameX.of s2) (fun _ _ z => z) fun _ _ _ z => z
    have ep := s2 _ _ ep
    have ha := B2.ins
    have S2 := Same.trans s1 s2
    walk_at "go"
    have bl := B.len
    refine ⟨d, _, rfl, DPut.t B2.dic (by rw [kc_v]; exact ep) (Nat.lt_of_le_of_lt (m := 1000000) (by omega) (by decide)), ?_⟩
    have ned : a ≠ d := ne_kind ha B2.dic (by intro z; cases z)
    have nsd : s ≠ d := ne_kind es B2.dic (by intro z; cases hf : new0 k.1 <;> (rw [hf] at z; cases z))
    have ned2 : ∀ {x : Addr} {xs : List V}, H2 x = some (.tup xs) → x ≠ d := fun h => ne_kind h B2.dic (by intro z; cases z)
    have nH : H s = none := s1.free ns2
    refine tail _ _ (fun x => Fp x ∨ x = s) s ((SameX.of S2).mut B.fd) (fun x hx => ?_) (lk_mut (ned2 ep) ep) ⟨lk_mut ned ha, ?_, upd_same, Nat.le_trans (length_putK _ _ _) (by omega), .inl B.fa, .inl B.fd, fun c' hc' => ?_, fun c' v hv => ?_, fun c1 c2 x h1 h2 => ?_, B.ok, fun x hx => ?_⟩ ?_
    · rcases hx with hx | rfl
      · exact .inl hx
      · exact .inr nH
    · obtain ⟨t, t1, t2⟩ := B2.look
      exact ⟨t, lk_mut (ned2 t1) t1, lk_mut (ned2 t2) t2⟩
    · rw [valV_put] at hc'
      split at hc'
      · cases hc'
      · exact B.non _ hc'
    · rw [valV_put] at hv
      split at hv
      · rename_i z
        cases hv
        rw [kc_inj z]
        exact ⟨s, sx, rfl, by rw [upd_ne nsd, es, B.non _ e], .inr rfl⟩
      · obtain ⟨x, xx, rfl, hx, fx⟩ := B2.som _ _ hv
        exact ⟨x, xx, rfl, lk_mut (ne_kind hx B2.dic (by intro z; cases hf : f c' <;> (rw [hf] at z; cases z))) hx, .inl fx⟩
    · rw [valV_put] at h1 h2
      have new : ∀ c', valV kvs (kc c') = some (.ref s) → False := fun c' h' => by
        obtain ⟨x, xx, ex, hx, fx⟩ := B1.som _ _ h'
        cases ex
        rw [hx] at ns2
        cases ns2
      split at h1
      · rename_i z1
        split at h2
        · rename_i z2
          rw [kc_inj z1, kc_inj z2]
        · cases h1
          exact (new _ h2).elim
      · split at h2
        · cases h2
          exact (new _ h1).elim
        · exact B.inj _ _ _ h1 h2
    · rcases hx with hx | rfl
      · obtain ⟨o, ho, m⟩ := B2.dom x hx
        by_cases z : x = d
        · exact ⟨_, by rw [z, upd_same], MutO.dT⟩
        · exact ⟨o, lk_mut z ho, m⟩
      · exact ⟨_, by rw [upd_ne nsd, es], MutO.sl⟩
    · rw [valV_put, if_pos rfl]
  | some v =>
    refine g_ifF ?_
    obtain ⟨s, sx, rfl, es, fs⟩ := B1.som _ _ e
    refine g_next ?_
    exact tail H1 kvs Fp s (SameX.of s1) (fun x hx => .inl hx) ep ⟨B1.ins, B1.look, B1.dic, Nat.le_succ_of_le B1.len, B1.fa, B1.fd, B1.non, B1.som, B1.inj, B1.ok, B1.dom⟩ e
end
/-! a mixer's shares -/
def dotS (ws cs : List Int) : Int := (List.zipWith (fun w c => w * c) ws cs).sum
def mixedS (ws cs : List Int) : Int := dotS ws cs / ws.sum
def partsS (ws cs : List Int) (b : Int) : List Int := List.zipWith (fun w c => w * gave c b) ws cs
def grownS (ps : List Int) : List Int := ps.map fun p => 31 * (ps.length : Int) * p + ps.sum
def overS (s : Int) : Int := if ((Builtin.Int.intBits s : Nat) : Int) - 48 > 0 then ((Builtin.Int.intBits s : Nat) : Int) - 48 else 0
def cutS (gs : List Int) : List Int := gs.map fun g => g / 2 ^ (overS gs.sum).toNat
def learnS (ws cs : List Int) (b : Int) : List Int := cutS (grownS (partsS ws cs b))
structure MOk (m : Nat) (ws : List Int) : Prop where
  len : ws.length = m
  m1 : 1 ≤ m
  m6 : m ≤ 6
  pos : ∀ w ∈ ws, 1 ≤ w
  sum : ws.sum < 281474976710656
structure COk (m : Nat) (cs : List Int) : Prop where
  len : cs.length = m
  all : ∀ c ∈ cs, 32768 ≤ c ∧ c ≤ 16744448
theorem sum_ge : ∀ {l : List Int}, (∀ x ∈ l, 1 ≤ x) → (l.length : Int) ≤ l.sum ∧ ∀ x ∈ l, x ≤ l.sum
  | [], _ => ⟨by simp, fun x h => nomatch h⟩
  | y :: l, h => by
    obtain ⟨a, b⟩ := sum_ge (l := l) fun x hx => h x (List.mem_cons_of_mem _ hx)
    have y1 := h y List.mem_cons_self
    refine ⟨by simp only [List.length_cons, List.sum_cons]; omega, fun x hx => ?_⟩
    rw [List.sum_cons]
    rcases List.mem_cons.mp hx with rfl | hx
    · omega
    · have := b x hx; omega
theorem sum_aff (a b : Int) : ∀ l : List Int, (l.map fun p => a * p + b).sum = a * l.sum + (l.length : Int) * b
  | [] => by simp
  | p :: l => by
    rw [List.map_cons, List.sum_cons, sum_aff a b l, List.sum_cons, List.length_cons, Int.mul_add]
    have : ((l.length + 1 : Nat) : Int) * b = (l.length : Int) * b + b := by rw [Int.natCast_add, Int.add_mul]; simp
    rw [this]
    omega
theorem sum_div (d : Int) (hd : 0 < d) : ∀ l : List Int, (l.map fun g => g / d).sum * d ≤ l.sum
  | [] => by simp
  | g :: l => by
    rw [List.map_cons, List.sum_cons, List.sum_cons, Int.add_mul]
    have := sum_div d hd l
    have := Int.ediv_mul_le g (Int.ne_of_gt hd)
    omega
theorem gave_ok {c b : Int} (h : 32768 ≤ c ∧ c ≤ 16744448) : 32768 ≤ gave c b ∧ gave c b ≤ 16744448 := by
  unfold gave
  split <;> omega
theorem zip_all {P Q R : Int → Prop} {f : Int → Int → Int} (hf : ∀ w c, P w → Q c → R (f w c)) : ∀ {ws cs : List Int}, (∀ w ∈ ws, P w) → (∀ c ∈ cs, Q c) → ∀ x ∈ List.zipWith f ws cs, R x
  | [], _, _, _, x, h => by simp at h
  | _ :: _, [], _, _, x, h => by simp at h
  | w :: ws, c :: cs, hw, hc, x, h => by
    rw [List.zipWith_cons_cons] at h
    rcases List.mem_cons.mp h with rfl | h
    · exact hf _ _ (hw _ List.mem_cons_self) (hc _ List.mem_cons_self)
    · exact zip_all hf (fun w h => hw w (List.mem_cons_of_mem _ h)) (fun c h => hc c (List.mem_cons_of_mem _ h)) x h
theorem parts_ok {m : Nat} {ws cs : List Int} (b : Int) (w : MOk m ws) (c : COk m cs) : (partsS ws cs b).length = m ∧ ∀ p ∈ partsS ws cs b, 1 ≤ p := by
  refine ⟨by unfold partsS; rw [List.length_zipWith, w.len, c.len]; omega, ?_⟩
  refine zip_all (P := fun w => 1 ≤ w) (Q := fun c => 32768 ≤ c ∧ c ≤ 16744448) (R := fun p => 1 ≤ p) (fun w c hw hc => ?_) w.pos c.all
  have := (gave_ok (b := b) hc).1
  have := Int.mul_le_mul hw this (by omega) (by omega)
  omega
theorem bits_pos {s : Int} (h : 0 < s) : 2 ^ (Builtin.Int.intBits s - 1) ≤ s ∧ s < 2 ^ Builtin.Int.intBits s ∧ 1 ≤ Builtin.Int.intBits s := by
  have e : Builtin.Int.intBits s = s.natAbs.log2 + 1 := by
    unfold Builtin.Int.intBits
    rw [if_neg (by simp; omega)]
  rw [e, Nat.add_sub_cancel]
  have hn : s.natAbs ≠ 0 := by omega
  have a := Nat.log2_self_le hn
  have b := (Nat.log2_lt (n := s.natAbs) (k := s.natAbs.log2 + 1) hn).mp (Nat.lt_succ_self _)
  have c : ∀ k : Nat, (2 : Int) ^ k = ((2 ^ k : Nat) : Int) := fun k => by simp
  rw [c, c]
  refine ⟨by omega, by omega, by omega⟩
/-- halved as often as is needed, no oftener -/
theorem over_ok {s : Int} (h : 0 < s) : s < 281474976710656 * 2 ^ (overS s).toNat ∧ (overS s ≠ 0 → 140737488355328 * 2 ^ (overS s).toNat ≤ s) ∧ 0 ≤ overS s := by
  obtain ⟨a, b, c⟩ := bits_pos h
  unfold overS
  generalize Builtin.Int.intBits s = k at a b c
  by_cases z : (k : Int) - 48 > 0
  · rw [if_pos z]
    have e : ((k : Int) - 48).toNat = k - 48 := by omega
    rw [e]
    have p1 : (2 : Int) ^ k = 281474976710656 * 2 ^ (k - 48) := by
      rw [show (281474976710656 : Int) = 2 ^ 48 from rfl, ← Int.pow_add]
      congr 1; omega
    have p2 : (2 : Int) ^ (k - 1) = 140737488355328 * 2 ^ (k - 48) := by
      rw [show (140737488355328 : Int) = 2 ^ 47 from rfl, ← Int.pow_add]
      congr 1; omega
    rw [← p1, ← p2]
    exact ⟨b, fun _ => a, by omega⟩
  · rw [if_neg z]
    refine ⟨?_, fun z => absurd rfl z, Int.le_refl _⟩
    have p : (2 : Int) ^ k ≤ 2 ^ 48 := by
      have c : ∀ k : Nat, (2 : Int) ^ k = ((2 ^ k : Nat) : Int) := fun k => by simp
      rw [c, c]
      exact Int.ofNat_le.mpr (Nat.pow_le_pow_right (by decide) (by omega))
    have : (2 : Int) ^ 48 = 281474976710656 := by decide
    simp
    omega
theorem grown_sum (ps : List Int) : (grownS ps).sum = 32 * (ps.length : Int) * ps.sum := by
  unfold grownS
  rw [sum_aff]
  rw [Int.mul_assoc, Int.mul_assoc]
  omega
theorem learn_ok {m : Nat} {ws cs : List Int} {b : Int} (w : MOk m ws) (c : COk m cs) : MOk m (learnS ws cs b) := by
  obtain ⟨pl, pp⟩ := parts_ok b w c
  unfold learnS
  generalize partsS ws cs b = ps at pl pp
  obtain ⟨s1, s2⟩ := sum_ge pp
  have m1 := w.m1
  have m6 := w.m6
  have gs := grown_sum ps
  have W : 1 ≤ ps.sum := by omega
  have S : 0 < (grownS ps).sum := by
    rw [gs, pl]
    exact Int.mul_pos (by omega) (by omega)
  obtain ⟨o1, o2, o3⟩ := over_ok S
  have hd : (0 : Int) < 2 ^ (overS (grownS ps).sum).toNat := Int.pow_pos (by decide)
  refine ⟨?_, m1, m6, fun x hx => ?_, ?_⟩
  · unfold cutS grownS
    rw [List.length_map, List.length_map, pl]
  · unfold cutS at hx
    obtain ⟨g, hg, rfl⟩ := List.mem_map.mp hx
    refine Int.le_ediv_of_mul_le hd ?_
    rw [Int.one_mul]
    have hW : ps.sum ≤ g := by
      unfold grownS at hg
      obtain ⟨p, hp, rfl⟩ := List.mem_map.mp hg
      have := pp p hp
      have : 0 ≤ 31 * (ps.length : Int) * p := Int.mul_nonneg (by omega) (by omega)
      omega
    by_cases z : overS (grownS ps).sum = 0
    · rw [z]
      have : (2 : Int) ^ (0 : Int).toNat = 1 := rfl
      omega
    · have o2 := o2 z
      have k : (grownS ps).sum ≤ 192 * ps.sum := by
        rw [gs]
        exact Int.mul_le_mul_of_nonneg_right (by omega) (by omega)
      generalize (2 : Int) ^ (overS (grownS ps).sum).toNat = d at o2 hd
      omega
  · unfold cutS
    have := sum_div _ hd (grownS ps)
    generalize (2 : Int) ^ (overS (grownS ps).sum).toNat = d at this o1 hd
    have : ((grownS ps).map fun g => g / d).sum * d < 281474976710656 * d := by omega
    exact Int.lt_of_mul_lt_mul_right this (by omega)
def MixAt (K : PySem.W.Frag) (H : Hp) (a dx : Addr) (ws : List Int) : Prop := ∃ p, H a = some (.ins (He.ga K "Mixer") dx [("shares", .ref p)]) ∧ H p = some (.lst (ws.map V.int))
theorem MixAt.same {K : PySem.W.Frag} {H H1 : Hp} {a dx : Addr} {ws : List Int} (h : MixAt K H a dx ws) (s : Same H H1) : MixAt K H1 a dx ws := by
  obtain ⟨p, h1, h2⟩ := h
  exact ⟨p, s _ _ h1, s _ _ h2⟩
theorem MixAt.keep {K : PySem.W.Frag} {M : Addr → Prop} {H H1 : Hp} {a dx : Addr} {ws : List Int} (h : MixAt K H a dx ws) (s : SameX M H H1) (na : ¬ M a) (nl : ∀ p xs, H p = some (.lst xs) → ¬ M p) : MixAt K H1 a dx ws := by
  obtain ⟨p, h1, h2⟩ := h
  exact ⟨p, s.kp _ _ na h1, s.kp _ _ (nl _ _ h2) h2⟩
theorem cdw48 {i j : Int} (h : 0 < j) (h2 : j < 281474976710656) : CDivW i j := ⟨h, by
  have : j.natAbs.log2 < 48 := (Nat.log2_lt (by omega)).mpr (by omega)
  omega⟩
theorem dot_take {ws cs : List Int} {i : Nat} {w c : Int} (f : Int → Int → Int) (hw : ws[i]? = some w) (hc : cs[i]? = some c) : List.zipWith f (ws.take (i + 1)) (cs.take (i + 1)) = List.zipWith f (ws.take i) (cs.take i) ++ [f w c] := by
  have h1 := (List.getElem?_eq_some_iff.mp hw).1
  have h2 := (List.getElem?_eq_some_iff.mp hc).1
  rw [List.take_add_one, List.take_add_one, hw, hc, List.zipWith_append (by simp only [List.length_take]; omega)]
  rfl
theorem zip_ints (g : Int → Int → Int) : ∀ ws cs : List Int, List.zipWith (fun w c => V.int (g w c)) ws cs = (List.zipWith g ws cs).map V.int
  | [], _ => by simp
  | _ :: _, [] => by simp
  | w :: ws, c :: cs => by rw [List.zipWith_cons_cons, List.zipWith_cons_cons, List.map_cons, zip_ints g ws cs]
/-! a mixer: its deeds, where its shares stand -/
structure MixP (K : PySem.W.Frag) (H : Hp) (a dx p : Addr) (ws : List Int) : Prop where
  ins : H a = some (.ins (He.ga K "Mixer") dx [("shares", .ref p)])
  lst : H p = some (.lst (ws.map V.int))
theorem MixP.at_ {K : PySem.W.Frag} {H : Hp} {a dx p : Addr} {ws : List Int} (h : MixP K H a dx p ws) : MixAt K H a dx ws := ⟨p, h.ins, h.lst⟩
theorem MixP.same {K : PySem.W.Frag} {H H1 : Hp} {a dx p : Addr} {ws : List Int} (h : MixP K H a dx p ws) (s : Same H H1) : MixP K H1 a dx p ws := ⟨s _ _ h.ins, s _ _ h.lst⟩
section
variable (K : PySem.W.Frag) [HasCls K "Mixer"] [HasNo K "Mixer" "shares"]
def F_Mixer_init (K : PySem.W.Frag) : V → V → Hp → VK → XK → Prop := fun x y H Q _ => ∃ (a dx : Addr) (m : Nat), x = .ref a ∧ y = .int m ∧ m ≤ 6 ∧ H a = some (.ins (He.ga K "Mixer") dx []) ∧
  ∀ p H', H p = none → SameX (· = a) H H' → MixP K H' a dx p (List.replicate m 1099511627776) → Q .non H'
abbrev sp_Mixer_init (K : PySem.W.Frag) : Sp := on2 (F_Mixer_init K)
theorem rep1' {n : Nat} {b : Int} : (List.replicate n [V.int b]).flatten = (List.replicate n b).map V.int := by
  rw [List.map_replicate]
  induction n with
  | zero => rfl
  | succ n ih => rw [List.replicate_succ, List.flatten_cons, ih]; rfl
def t_Mixer_init (K : PySem.W.Frag) (E : XK) : TS :=
  sFld K (tVar 0) (tOp (rTimes) (tLst (tCons (tC (.int 1099511627776)) (tNil))) (tVar 1)) "shares"
theorem pure_Mixer_init {x y : V} {H : Hp} {Q : VK} {E : XK} (h : F_Mixer_init K x y H Q E) : t_Mixer_init K E ⟨fun _ H' => Q .non H', Q, fun _ _ => False, fun _ _ => False⟩ [some x, some y] H := by
  obtain ⟨a, dx, m, rfl, rfl, m6, ha, q⟩ := h
  unfold t_Mixer_init
  walk_at "go"
  intro l nl
  walk_at "go"
  refine g_rep upd_same (by omega) (by omega) (Nat.le_trans (m := 1000000) (by simp only [List.length_cons, List.length_nil]; omega) (by decide)) ?_
  intro p np
  rw [Int.toNat_natCast, rep1']
  have ha1 := lk_new (u := .lst ((List.replicate m (1099511627776 : Int)).map V.int)) (lk_new (u := .lst [.int 1099511627776]) ha nl) np
  have npa : p ≠ a := fun e => by rw [e, lk_new ha nl] at np; cases np
  walk_at "go"
  exact q p _ (upd_none np) (((SameX.of (Same.refl H)).new nl |>.new np).mut rfl) ⟨upd_same, lk_mut npa upd_same⟩
def F_Mixer_weights (K : PySem.W.Frag) : V → Hp → VK → XK → Prop := fun x H Q _ => ∃ (a dx : Addr) (ws : List Int), x = .ref a ∧ MixAt K H a dx ws ∧ ∀ l, H l = none → Q (.ref l) (upd H l (.lst (ws.map V.int)))
abbrev sp_Mixer_weights (K : PySem.W.Frag) : Sp := on1 (F_Mixer_weights K)
def F_Mixer_mixed (K : PySem.W.Frag) : V → V → Hp → VK → XK → Prop := fun x y H Q _ => ∃ (a dx b : Addr) (ws cs : List Int) (m : Nat), x = .ref a ∧ y = .ref b ∧ MixAt K H a dx ws ∧ SqL K H b (cs.map V.int) ∧ MOk m ws ∧ COk m cs ∧ ∀ H', Same H H' → Q (.int (mixedS ws cs)) H'
abbrev sp_Mixer_mixed (K : PySem.W.Frag) : Sp := on2 (F_Mixer_mixed K)
def t_Mixer_mixed (K : PySem.W.Frag) (E : XK) : TS :=
  tSeq (tAsg (tC (.int 0)) (gName 2))
  (tSeq (tFor (iZip K (tCons (tFld K (tVar 0) "shares") (tCons (tVar 1) (tNil)))) (gTup K 2 (gCons (gName 3) (gCons (gName 4) (gNil)))) (tAug 2 (tOp (rTimes) (tVar 3) (tVar 4)) (ipI fun i j => i + j)))
  (tRet (tOp (rFloor) (tVar 2) (tCB (rSum K) (tCons (tFld K (tVar 0) "shares") (tNil))))))
theorem pure_Mixer_mixed {x y : V} {H : Hp} {Q : VK} {E : XK} (h : F_Mixer_mixed K x y H Q E) : t_Mixer_mixed K E ⟨fun _ H' => Q .non H', Q, fun _ _ => False, fun _ _ => False⟩ [some x, some y, none, none, none] H := by
  obtain ⟨a, dx, b, ws, cs, m, rfl, rfl, ⟨p, ha, hp⟩, hb, w, c, q⟩ := h
  obtain ⟨s1, s2⟩ := sum_ge w.pos
  have sm := w.sum
  have m1 := w.m1
  unfold t_Mixer_mixed
  walk_at "go"
  refine for_ZI (sq_of hp) hb (by rw [w.len, c.len]) (fun i σ H1 => ∃ u1 u2, σ = [some (.ref a), some (.ref b), some (.int (dotS (ws.take i) (cs.take i))), u1, u2] ∧ Same H H1) ⟨_, _, rfl, Same.refl _⟩ ?_ ?_ ?_
  · rintro i σ H1 ⟨u1, u2, rfl, s⟩
    exact ⟨sq_of (s _ _ hp), s.seq hb⟩
  · rintro i z d σ H1 T hz hd nT ⟨u1, u2, rfl, s⟩
    obtain ⟨d1, d2⟩ := c.all d (List.mem_of_getElem? hd)
    walk_at "go"
    refine ⟨some (.int z), some (.int d), ?_, same_new s nT⟩
    unfold dotS
    rw [dot_take _ hz hd, List.sum_append, List.sum_cons, List.sum_nil, Int.add_zero]
  · rintro σ H1 ⟨u1, u2, rfl, s⟩
    have wl := w.len
    rw [List.take_length, List.take_of_length_le (by rw [w.len, c.len]; exact Nat.le_refl _)]
    have ha1 := s _ _ ha
    walk_at "go"
    refine g_sum (ns := ws) (sq_of (s _ _ hp)) ?_
    walk_at "go"
    exact g_floor (cdw48 (by omega) sm) (q _ s)
def F_Mixer_learn (K : PySem.W.Frag) : V → V → V → Hp → VK → XK → Prop := fun x y z H Q E => ∃ (a dx b : Addr) (ws cs : List Int) (m : Nat), x = .ref a ∧ y = .ref b ∧ MixAt K H a dx ws ∧ SqL K H b (cs.map V.int) ∧ MOk m ws ∧ COk m cs ∧ TyW K H z ∧
  (btw 0 1 z = false → E (.ref (He.ga K "NoBit")) none H) ∧ ∀ (t : Int), z = .int t → 0 ≤ t → t ≤ 1 → ∀ p H', H p = none → SameX (· = a) H H' → MixP K H' a dx p (learnS ws cs t) → Q .non H'
abbrev sp_Mixer_learn (K : PySem.W.Frag) : Sp := on3 (F_Mixer_learn K)
def t_Mixer_learn (K : PySem.W.Frag) (E : XK) : TS :=
  tSeq (tAsg (tFun (sp_checked_bit K) [] (fun _ => E) (tCons (tVar 2) (tNil))) (gName 3))
  (tSeq (tAsg (tLc (iZip K (tCons (tFld K (tVar 0) "shares") (tCons (tVar 1) (tNil)))) (gTup K 2 (gCons (gName 9) (gCons (gName 10) (gNil)))) (tYes) (tOp (rTimes) (tVar 9) (tFun (sp_gives K) [] (fun _ => E0) (tCons (tVar 10) (tCons (tVar 3) (tNil))))) [9, 10]) (gName 4))
  (tSeq (tAsg (tCB (rSum K) (tCons (tVar 4) (tNil))) (gName 5))
  (tSeq (tAsg (tCB (rLength K) (tCons (tVar 4) (tNil))) (gName 6))
  (tSeq (tAsg (tLc (iList K (tVar 4)) (gName 11) (tYes) (tOp (rPlus K) (tOp (rTimes) (tOp (rTimes) (tC (.int 31)) (tVar 6)) (tVar 11)) (tVar 5)) [11]) (gName 7))
  (tSeq (tAsg (tCB (rGreatest K) (tCons (tC (.int 0)) (tCons (tOp (rMinus) (tBits (tCB (rSum K) (tCons (tVar 7) (tNil)))) (tC (.int 48))) (tNil)))) (gName 8))
  (sFld K (tVar 0) (tLc (iList K (tVar 7)) (gName 12) (tYes) (tOp (rRsh) (tVar 12) (tVar 8)) [12]) "shares"))))))
theorem pure_Mixer_learn {x y z : V} {H : Hp} {Q : VK} {E : XK} (h : F_Mixer_learn K x y z H Q E) : t_Mixer_learn K E ⟨fun _ H' => Q .non H', Q, fun _ _ => False, fun _ _ => False⟩ [some x, some y, some z, none, none, none, none, none, none, none, none, none, none] H := by
  obtain ⟨a, dx, b, ws, cs, m, rfl, rfl, ⟨p, ha, hp⟩, hb, w, c, tz, r, q⟩ := h
  unfold t_Mixer_learn
  walk_at "go"
  refine ⟨tz, fun hz => ?_, r⟩
  obtain ⟨t, rfl, t1, t2⟩ := btw_int hz
  have q := q t rfl t1 t2
  obtain ⟨pl, pp⟩ := parts_ok t w c
  have m6 := w.m6
  walk_at "go"
  refine lc_ZI (sq_of hp) hb (by rw [w.len, c.len]) (by decide) (fun w c => .int (w * gave c t)) (by rw [w.len]; omega) (fun v d hv hd H2 Q2 s2 k => ?_) fun D H2 nD s2 eD => ?_
  · obtain ⟨d1, d2⟩ := c.all d hd
    walk_at "go"
    refine gives_of ⟨d1, d2⟩ ⟨t1, t2⟩ ?_
    have g1 := gave_ok (b := t) ⟨d1, d2⟩
    refine g_mul (.inr ⟨by omega, by omega⟩) ?_
    exact k _ (Same.refl _)
  · have eD : H2 D = some (.lst ((partsS ws cs t).map V.int)) := by rw [eD, zip_ints]; rfl
    unfold learnS at q
    generalize partsS ws cs t = ps at pl pp eD q
    walk_at "go"
    refine g_sum (ns := ps) (sq_of eD) ?_
    walk_at "go"
    rw [List.length_map]
    refine lc_LI (ns := ps) (sq_of eD) (fun z => .int (31 * (ps.length : Int) * z + ps.sum)) (by omega) (fun z hz D2 H3 Q3 s3 k => ?_) fun D2 H3 nD2 s3 eD2 => ?_
    · walk_at "go"
      exact k _ (Same.refl _)
    · have eD2 : H3 D2 = some (.lst ((grownS ps).map V.int)) := by rw [eD2]; unfold grownS; rw [List.map_map]; rfl
      have gl : (grownS ps).length = m := by unfold grownS; rw [List.length_map, pl]
      walk_at "go"
      refine g_sum (ns := grownS ps) (sq_of eD2) ?_
      walk_at "go"
      rw [show (if ((Builtin.Int.intBits (grownS ps).sum : Nat) : Int) - 48 > 0 then ((Builtin.Int.intBits (grownS ps).sum : Nat) : Int) - 48 else 0) = overS (grownS ps).sum from rfl]
      have o3 : 0 ≤ overS (grownS ps).sum := by unfold overS; split <;> omega
      walk_at "go"
      refine lc_LI (ns := grownS ps) (sq_of eD2) (fun z => .int (z / 2 ^ (overS (grownS ps).sum).toNat)) (by omega) (fun z hz D3 H4 Q4 s4 k => ?_) fun D3 H4 nD3 s4 eD3 => ?_
      · walk_at "go"
        refine g_rsh o3 ?_
        exact k _ (Same.refl _)
      · have eD3 : H4 D3 = some (.lst ((cutS (grownS ps)).map V.int)) := by rw [eD3]; unfold cutS; rw [List.map_map]; rfl
        have S4 : Same H H4 := Same.trans (Same.trans s2 s3) s4
        have ha4 := S4 _ _ ha
        have nDa : D3 ≠ a := ne_kind eD3 ha4 (by intro e; cases e)
        walk_at "go"
        exact q D3 _ ((Same.trans s2 s3).free nD3) ((SameX.of S4).mut rfl) ⟨upd_same, lk_mut nDa eD3⟩
end
/-! a foreteller: books, a mixer, the text so far -/
theorem dot_bounds : ∀ {ws cs : List Int}, ws.length = cs.length → (∀ w ∈ ws, 1 ≤ w) → (∀ c ∈ cs, 32768 ≤ c ∧ c ≤ 16744448) → 32768 * ws.sum ≤ dotS ws cs ∧ dotS ws cs ≤ 16744448 * ws.sum
  | [], [], _, _, _ => by simp [dotS]
  | [], _ :: _, h, _, _ => by simp at h
  | _ :: _, [], h, _, _ => by simp at h
  | w :: ws, c :: cs, hl, hw, hc => by
    have ih := dot_bounds (ws := ws) (cs := cs) (by simpa using hl) (fun w h => hw w (List.mem_cons_of_mem _ h)) (fun c h => hc c (List.mem_cons_of_mem _ h))
    have w1 := hw w List.mem_cons_self
    have c1 := hc c List.mem_cons_self
    unfold dotS at ih ⊢
    rw [List.zipWith_cons_cons, List.sum_cons, List.sum_cons, Int.mul_add, Int.mul_add]
    have a : w * 32768 ≤ w * c := Int.mul_le_mul_of_nonneg_left c1.1 (by omega)
    have b : w * c ≤ w * 16744448 := Int.mul_le_mul_of_nonneg_left c1.2 (by omega)
    omega
theorem mixed_ok {m : Nat} {ws cs : List Int} (w : MOk m ws) (c : COk m cs) : 32768 ≤ mixedS ws cs ∧ mixedS ws cs ≤ 16744448 := by
  have s := (sum_ge w.pos).1
  have m1 := w.m1
  have wl := w.len
  obtain ⟨a, b⟩ := dot_bounds (by rw [w.len, c.len]) w.pos c.all
  unfold mixedS
  have p : 0 < ws.sum := by omega
  exact ⟨Int.le_ediv_of_mul_le p a, by
    have : dotS ws cs / ws.sum < 16744449 := Int.ediv_lt_of_lt_mul p (by omega)
    omega⟩
theorem sum_const (b : Int) (n : Nat) : (List.replicate n b).sum = b * (n : Int) := by
  induction n with
  | zero => simp
  | succ n ih => rw [List.replicate_succ, List.sum_cons, ih, Int.natCast_add, Int.mul_add]; simp; omega
theorem rep_ok {m : Nat} (h1 : 1 ≤ m) (h6 : m ≤ 6) : MOk m (List.replicate m 1099511627776) := by
  refine ⟨List.length_replicate, h1, h6, fun w h => ?_, ?_⟩
  · have := List.eq_of_mem_replicate h
    omega
  · rw [sum_const]
    omega
theorem chanceS_ok {s : Sl} (h : SlOk s) : 32768 ≤ chanceS s ∧ chanceS s ≤ 16744448 := by
  cases s with
  | even n o =>
    obtain ⟨h0, h1, h2⟩ := h
    have p : (0 : Int) < 2 * (n + o) + 2 := by omega
    refine ⟨Int.le_ediv_of_mul_le p (by omega), ?_⟩
    have : (2 * o + 1) * 16777216 / (2 * (n + o) + 2) < 16744449 := Int.ediv_lt_of_lt_mul p (by omega)
    show (2 * o + 1) * 16777216 / (2 * (n + o) + 2) ≤ 16744448
    omega
  | quick h' => exact h
  | run b l =>
    obtain ⟨h0, h1, h2, h3⟩ := h
    have p : (0 : Int) < 2 * l + 2 := by omega
    have a : 32768 ≤ (2 * l + 1) * 16777216 / (2 * l + 2) := Int.le_ediv_of_mul_le p (by omega)
    have c : (2 * l + 1) * 16777216 / (2 * l + 2) < 16744449 := Int.ediv_lt_of_lt_mul p (by omega)
    rw [chanceS_run]
    split <;> omega
/-! ### what it knows -/
structure Fst where
  bk : Nat → BkF
  ws : List Int
  ended : List Int
  place : Int
def st0 (ks : List Lk) : Fst := ⟨fun i => fresh (ks.getD i ("", [])).1, List.replicate ks.length 1099511627776, [], 0⟩
def chancesF (ks : List Lk) (st : Fst) : List Int := ks.mapIdx fun i k => chanceS (st.bk i (ctx k.2 st.ended st.place))
def chanceF (ks : List Lk) (st : Fst) : Int := mixedS st.ws (chancesF ks st)
def goE (en : List Int) (pl b : Int) : List Int := if pl > 0 then (if 2 * pl + b > 255 then en ++ [2 * pl + b - 256] else en) else if b = 1 then en else []
def goP (pl b : Int) : Int := if pl > 0 then (if 2 * pl + b > 255 then 0 else 2 * pl + b) else if b = 1 then 1 else pl
def bkS (ks : List Lk) (st : Fst) (b : Int) (i : Nat) : BkF := match ks[i]? with
  | some k => updB (st.bk i) (ctx k.2 st.ended st.place) (seenS (st.bk i (ctx k.2 st.ended st.place)) b)
  | none => st.bk i
def seeF (ks : List Lk) (st : Fst) (b : Int) : Fst := ⟨bkS ks st b, learnS st.ws (chancesF ks st) b, goE st.ended st.place b, goP st.place b⟩
def stF (ks : List Lk) (bits : List Int) : Fst := bits.foldl (seeF ks) (st0 ks)
theorem stF_snoc (ks : List Lk) (bits : List Int) (b : Int) : stF ks (bits ++ [b]) = seeF ks (stF ks bits) b := by unfold stF; rw [List.foldl_append]; rfl
structure FOk (ks : List Lk) (st : Fst) (n : Nat) : Prop where
  mok : MOk ks.length st.ws
  pl : 0 ≤ st.place ∧ st.place ≤ 255
  en : st.ended.length ≤ n
  sl : ∀ i c, SlOk (st.bk i c)
def Bits (bs : List Int) : Prop := ∀ b ∈ bs, 0 ≤ b ∧ b ≤ 1
theorem cokF {ks : List Lk} {st : Fst} {n : Nat} (h : FOk ks st n) : COk ks.length (chancesF ks st) := by
  refine ⟨by unfold chancesF; rw [List.length_mapIdx], fun c hc => ?_⟩
  unfold chancesF at hc
  obtain ⟨i, hi, e⟩ := List.mem_iff_getElem.mp hc
  rw [List.getElem_mapIdx] at e
  rw [← e]
  exact chanceS_ok (h.sl _ _)
theorem FOk.chance {ks : List Lk} {st : Fst} {n : Nat} (h : FOk ks st n) : 32768 ≤ chanceF ks st ∧ chanceF ks st ≤ 16744448 := mixed_ok h.mok (cokF h)
theorem FOk.see {ks : List Lk} {st : Fst} {n : Nat} {b : Int} (h : FOk ks st n) (hb : 0 ≤ b ∧ b ≤ 1) : FOk ks (seeF ks st b) (n + 1) := by
  refine ⟨learn_ok h.mok (cokF h), ?_, ?_, fun i c => ?_⟩
  · have := h.pl
    show 0 ≤ goP st.place b ∧ goP st.place b ≤ 255
    unfold goP
    split
    · split <;> omega
    · split <;> omega
  · have := h.en
    show (goE st.ended st.place b).length ≤ n + 1
    unfold goE
    split
    · split
      · rw [List.length_append, List.length_singleton]; omega
      · omega
    · split
      · omega
      · simp
  · show SlOk (bkS ks st b i c)
    unfold bkS
    cases ks[i]? with
    | none => exact h.sl _ _
    | some k =>
      show SlOk (updB (st.bk i) (ctx k.2 st.ended st.place) (seenS (st.bk i (ctx k.2 st.ended st.place)) b) c)
      unfold updB
      split
      · exact seenS_ok (h.sl _ _) hb
      · exact h.sl _ _
theorem fok0 {ks : List Lk} (h : LksOk ks) : FOk ks (st0 ks) 0 := ⟨rep_ok h.l1 h.l6, by show (0 : Int) ≤ 0 ∧ (0 : Int) ≤ 255; decide, Nat.le_refl _, fun _ _ => new0_ok _⟩
theorem fokF {ks : List Lk} (h : LksOk ks) : ∀ {bits : List Int}, Bits bits → FOk ks (stF ks bits) bits.length := by
  have key : ∀ (bits : List Int) (st : Fst) (n : Nat), FOk ks st n → Bits bits → FOk ks (bits.foldl (seeF ks) st) (n + bits.length) := by
    intro bits
    induction bits with
    | nil => intro st n hs _; exact hs
    | cons b bits ih =>
      intro st n hs hb
      have := ih _ (n + 1) (hs.see (hb b List.mem_cons_self)) fun x hx => hb x (List.mem_cons_of_mem _ hx)
      rw [List.length_cons]
      have e : n + (bits.length + 1) = n + 1 + bits.length := by omega
      rw [e]
      exact this
  intro bits hb
  have := key bits _ 0 (fok0 h) hb
  rwa [Nat.zero_add] at this
/-! ### as it stands -/
structure BooksAt (K : PySem.W.Frag) (H : Hp) (bas : List Addr) (Fps : Nat → Addr → Prop) (g : Nat → BkF) (ks : List Lk) (n : Nat → Nat) : Prop where
  boo : ∀ i b k, bas[i]? = some b → ks[i]? = some k → BookAt K H b (Fps i) k (g i) (n i)
  dj : ∀ i j b, i ≠ j → Fps i b → Fps j b → False
  dom : ∀ i b, Fps i b → ∃ o, H b = some o ∧ MutO o
theorem BooksAt.keep {K : PySem.W.Frag} {H H1 : Hp} {bas : List Addr} {Fps : Nat → Addr → Prop} {M : Addr → Prop} {g : Nat → BkF} {ks : List Lk} {n : Nat → Nat} (h : BooksAt K H bas Fps g ks n) (s : SameX M H H1) (dj : ∀ i b, Fps i b → ¬ M b) (nt : ∀ b xs, H b = some (.tup xs) → ¬ M b) : BooksAt K H1 bas Fps g ks n :=
  ⟨fun i b k hb hk => (h.boo i b k hb hk).keep s (dj i) nt, h.dj, fun i b hb => by
    obtain ⟨o, ho, m⟩ := h.dom i b hb
    exact ⟨o, s.kp _ _ (dj _ _ hb) ho, m⟩⟩
theorem BooksAt.same {K : PySem.W.Frag} {H H1 : Hp} {bas : List Addr} {Fps : Nat → Addr → Prop} {g : Nat → BkF} {ks : List Lk} {n : Nat → Nat} (h : BooksAt K H bas Fps g ks n) (s : Same H H1) : BooksAt K H1 bas Fps g ks n := h.keep (M := fun _ => False) (SameX.of s) (fun _ _ _ z => z) fun _ _ _ z => z
abbrev foreF (k bl mx en : Addr) (pl : Int) (pa : Addr) : List (Str × V) := [("kinds", .ref k), ("books", .ref bl), ("mixer", .ref mx), ("ended", .ref en), ("place", .int pl), ("past", .ref pa)]
structure ForX (K : PySem.W.Frag) (H : Hp) (a dx k bl mx mdx sh en pa : Addr) (las bas : List Addr) (Fps : Nat → Addr → Prop) (Fp : Addr → Prop) (ks : List Lk) (st : Fst) (past : List Int) : Prop where
  ins : H a = some (.ins (He.ga K "Foreteller") dx (foreF k bl mx en st.place pa))
  kin : LooksH H k las ks
  bks : H bl = some (.lst (bas.map V.ref))
  bln : bas.length = ks.length
  boo : BooksAt K H bas Fps st.bk ks fun _ => past.length
  mix : MixP K H mx mdx sh st.ws
  end_ : H en = some (.lst (st.ended.map V.int))
  pas : H pa = some (.lst (past.map V.int))
  own : ∀ i b, Fps i b → b ≠ a ∧ b ≠ mx
  nam : a ≠ mx
  nep : en ≠ pa
  nek : en ≠ k ∧ en ≠ bl ∧ en ≠ sh
  npk : pa ≠ k ∧ pa ≠ bl ∧ pa ≠ sh
  cov : Fp a ∧ Fp k ∧ Fp bl ∧ Fp mx ∧ Fp sh ∧ Fp en ∧ Fp pa
  covb : ∀ i b, Fps i b → Fp b
  dom : ∀ b, Fp b → ∃ o, H b = some o ∧ ∀ xs, o ≠ .tup xs
def ForAt (K : PySem.W.Frag) (H : Hp) (a : Addr) (Fp : Addr → Prop) (ks : List Lk) (bits : List Int) : Prop := ∃ dx k bl mx mdx sh en pa las bas Fps, ForX K H a dx k bl mx mdx sh en pa las bas Fps Fp ks (stF ks bits) bits
theorem ForX.keep {K : PySem.W.Frag} {H H1 : Hp} {a dx k bl mx mdx sh en pa : Addr} {las bas : List Addr} {Fps : Nat → Addr → Prop} {Fp M : Addr → Prop} {ks : List Lk} {st : Fst} {past : List Int} (h : ForX K H a dx k bl mx mdx sh en pa las bas Fps Fp ks st past) (s : SameX M H H1) (dj : ∀ b, Fp b → ¬ M b) (nt : ∀ b xs, H b = some (.tup xs) → ¬ M b) :
    ForX K H1 a dx k bl mx mdx sh en pa las bas Fps Fp ks st past := by
  obtain ⟨c1, c2, c3, c4, c5, c6, c7⟩ := h.cov
  exact ⟨s.kp _ _ (dj _ c1) h.ins, ⟨s.kp _ _ (dj _ c2) h.kin.lst, h.kin.len, fun i x y hx hy => (h.kin.at_ i x y hx hy).keep s nt⟩, s.kp _ _ (dj _ c3) h.bks, h.bln, h.boo.keep s (fun i b hb => dj b (h.covb i b hb)) nt, ⟨s.kp _ _ (dj _ c4) h.mix.ins, s.kp _ _ (dj _ c5) h.mix.lst⟩,
    s.kp _ _ (dj _ c6) h.end_, s.kp _ _ (dj _ c7) h.pas, h.own, h.nam, h.nep, h.nek, h.npk, h.cov, h.covb, fun b hb => by
    obtain ⟨o, ho, m⟩ := h.dom b hb
    exact ⟨o, s.kp _ _ (dj _ hb) ho, m⟩⟩
theorem ForAt.keep {K : PySem.W.Frag} {H H1 : Hp} {a : Addr} {Fp M : Addr → Prop} {ks : List Lk} {bits : List Int} (h : ForAt K H a Fp ks bits) (s : SameX M H H1) (dj : ∀ b, Fp b → ¬ M b) (nt : ∀ b xs, H b = some (.tup xs) → ¬ M b) : ForAt K H1 a Fp ks bits := by
  obtain ⟨dx, k, bl, mx, mdx, sh, en, pa, las, bas, Fps, h⟩ := h
  exact ⟨dx, k, bl, mx, mdx, sh, en, pa, las, bas, Fps, h.keep s dj nt⟩
theorem ForX.same {K : PySem.W.Frag} {H H1 : Hp} {a dx k bl mx mdx sh en pa : Addr} {las bas : List Addr} {Fps : Nat → Addr → Prop} {Fp : Addr → Prop} {ks : List Lk} {st : Fst} {past : List Int} (h : ForX K H a dx k bl mx mdx sh en pa las bas Fps Fp ks st past) (s : Same H H1) :
    ForX K H1 a dx k bl mx mdx sh en pa las bas Fps Fp ks st past := h.keep (M := fun _ => False) (SameX.of s) (fun _ _ z => z) fun _ _ _ z => z
theorem ForAt.same {K : PySem.W.Frag} {H H1 : Hp} {a : Addr} {Fp : Addr → Prop} {ks : List Lk} {bits : List Int} (h : ForAt K H a Fp ks bits) (s : Same H H1) : ForAt K H1 a Fp ks bits := h.keep (M := fun _ => False) (SameX.of s) (fun _ _ z => z) fun _ _ _ z => z
theorem ForAt.dom {K : PySem.W.Frag} {H : Hp} {a : Addr} {Fp : Addr → Prop} {ks : List Lk} {bits : List Int} (h : ForAt K H a Fp ks bits) : ∀ b, Fp b → ∃ o, H b = some o ∧ ∀ xs, o ≠ .tup xs := by
  obtain ⟨dx, k, bl, mx, mdx, sh, en, pa, las, bas, Fps, h⟩ := h
  exact h.dom
theorem ForAt.nt {K : PySem.W.Frag} {H : Hp} {a : Addr} {Fp : Addr → Prop} {ks : List Lk} {bits : List Int} (h : ForAt K H a Fp ks bits) : ∀ b xs, H b = some (.tup xs) → ¬ Fp b := fun b xs e z => by
  obtain ⟨o, ho, m⟩ := h.dom _ z
  rw [e] at ho
  cases ho
  exact m _ rfl
theorem ForAt.fa {K : PySem.W.Frag} {H : Hp} {a : Addr} {Fp : Addr → Prop} {ks : List Lk} {bits : List Int} (h : ForAt K H a Fp ks bits) : Fp a := by
  obtain ⟨dx, k, bl, mx, mdx, sh, en, pa, las, bas, Fps, h⟩ := h
  exact h.cov.1
theorem fore_one {K : PySem.W.Frag} {H : Hp} {a : Addr} {Fp : Addr → Prop} {ks : List Lk} {bits : List Int} {m : Str} {sp : Sp} {A : Sp → Prop} (h : ForAt K H a Fp ks bits) (hm : ∀ k bl mx en pl pa, List.lookup m (foreF k bl mx en pl pa) = none) (q : A sp) : mthK m (one (He.ga K "Foreteller") sp) (.ref a) H A := by
  obtain ⟨dx, k, bl, mx, mdx, sh, en, pa, las, bas, Fps, h⟩ := h
  exact g_one h.ins (hm _ _ _ _ _ _) q
/-! ### its deeds -/
theorem chancesF_at {ks : List Lk} {st : Fst} {i : Nat} {k : Lk} (h : ks[i]? = some k) : (chancesF ks st)[i]? = some (chanceS (st.bk i (ctx k.2 st.ended st.place))) := by
  unfold chancesF
  rw [List.getElem?_mapIdx, h]
  rfl
section
variable (K : PySem.W.Frag) [HasCls K "Foreteller"] [HasNo K "Foreteller" "kinds"] [HasNo K "Foreteller" "books"] [HasNo K "Foreteller" "mixer"] [HasNo K "Foreteller" "ended"] [HasNo K "Foreteller" "place"] [HasNo K "Foreteller" "past"]
def F_Foreteller_chances (K : PySem.W.Frag) : V → Hp → VK → XK → Prop := fun x H Q _ => ∃ (a : Addr) (Fp : Addr → Prop) (ks : List Lk) (bits : List Int), x = .ref a ∧ ForAt K H a Fp ks bits ∧ LksOk ks ∧ Bits bits ∧
  ∀ l H', H l = none → Same H H' → H' l = some (.lst ((chancesF ks (stF ks bits)).map V.int)) → Q (.ref l) H'
abbrev sp_Foreteller_chances (K : PySem.W.Frag) : Sp := on1 (F_Foreteller_chances K)
def t_Foreteller_chances (K : PySem.W.Frag) (E : XK) : TS :=
  tRet (tLc (iList K (tFld K (tVar 0) "books")) (gName 1) (tYes) (tMth "chance" (one (He.ga K "Book") (sp_Book_chance K)) (fun _ => E0) (tVar 1) (tCons (tFld K (tVar 0) "ended") (tCons (tFld K (tVar 0) "place") (tNil)))) [1])
theorem pure_Foreteller_chances {x : V} {H : Hp} {Q : VK} {E : XK} (h : F_Foreteller_chances K x H Q E) : t_Foreteller_chances K E ⟨fun _ H' => Q .non H', Q, fun _ _ => False, fun _ _ => False⟩ [some x, none] H := by
  obtain ⟨a, Fp, ks, bits, rfl, ⟨dx, k, bl, mx, mdx, sh, en, pa, las, bas, Fps, X⟩, ok, hb, q⟩ := h
  have ha := X.ins
  have l6 := ok.l6
  have bn := X.bln
  unfold t_Foreteller_chances
  walk_at "go"
  have cl : (chancesF ks (stF ks bits)).length = ks.length := by unfold chancesF; rw [List.length_mapIdx]
  refine lc_LN (sq_of X.bks) (by rw [List.length_map]; omega) (fun D i ys H2 => H D = none ∧ Same H H2 ∧ H2 D = some (.lst ys) ∧ ys = ((chancesF ks (stF ks bits)).take i).map V.int ∧ i ≤ ks.length) (fun D hD => ⟨hD, same_new (Same.refl _) hD, upd_same, rfl, Nat.zero_le _⟩) ?_ ?_ ?_
  · rintro D i ys H2 ⟨hD, s, eD, rfl, hi⟩
    exact ⟨sq_of (s _ _ X.bks), eD, by rw [List.length_map, List.length_take]; omega⟩
  · rintro D i v ys H2 Q2 hv ⟨hD, s, eD, rfl, hi⟩ q2
    obtain ⟨b, hb', rfl⟩ := map_at hv
    have hi := (List.getElem?_eq_some_iff.mp hb').1
    have hk : ks[i]? = some (ks[i]'(by omega)) := List.getElem?_eq_getElem (by omega)
    generalize ks[i]'(by omega) = kk at hk
    have X2 := X.same s
    have ha2 := X2.ins
    have B := X2.boo.boo i b kk hb' hk
    obtain ⟨bx, bla, bd, bkv, BX⟩ := B
    have hbi := BX.ins
    walk_at "go"
    refine ⟨b, en, Fps i, kk, _, _, _, _, rfl, rfl, rfl, ⟨bx, bla, bd, bkv, BX⟩, ok.all _ (List.mem_of_getElem? hk), sq_of X2.end_, fun H3 s3 => ?_⟩
    refine q2 _ _ (s3 _ _ eD) ⟨hD, same_mut (Same.trans s s3) hD, upd_same, ?_, by omega⟩
    rw [List.take_add_one, chancesF_at hk, List.map_append]
    rfl
  · rintro D ys H3 ⟨hD, s, eD, rfl, -⟩
    rw [List.length_map, List.take_of_length_le (by omega)] at eD
    exact q D H3 hD s eD
def F_Foreteller_chance (K : PySem.W.Frag) : V → Hp → VK → XK → Prop := fun x H Q _ => ∃ (a : Addr) (Fp : Addr → Prop) (ks : List Lk) (bits : List Int), x = .ref a ∧ ForAt K H a Fp ks bits ∧ LksOk ks ∧ Bits bits ∧ ∀ H', Same H H' → Q (.int (chanceF ks (stF ks bits))) H'
abbrev sp_Foreteller_chance (K : PySem.W.Frag) : Sp := on1 (F_Foreteller_chance K)
def t_Foreteller_chance (K : PySem.W.Frag) (E : XK) : TS :=
  tRet (tMth "mixed" (one (He.ga K "Mixer") (sp_Mixer_mixed K)) (fun _ => E) (tFld K (tVar 0) "mixer") (tCons (tMth "chances" (one (He.ga K "Foreteller") (sp_Foreteller_chances K)) (fun _ => E) (tVar 0) (tNil)) (tNil)))
theorem pure_Foreteller_chance {x : V} {H : Hp} {Q : VK} {E : XK} (h : F_Foreteller_chance K x H Q E) : t_Foreteller_chance K E ⟨fun _ H' => Q .non H', Q, fun _ _ => False, fun _ _ => False⟩ [some x] H := by
  obtain ⟨a, Fp, ks, bits, rfl, A, ok, hb, q⟩ := h
  have A' := A
  obtain ⟨dx, k, bl, mx, mdx, sh, en, pa, las, bas, Fps, X⟩ := A
  have ha := X.ins
  have hm := X.mix.ins
  unfold t_Foreteller_chance
  walk_at "go"
  refine ⟨a, Fp, ks, bits, rfl, A', ok, hb, fun l H1 nl s1 el => ?_⟩
  have X1 := X.same s1
  walk_at "go"
  have f := fokF ok hb
  exact ⟨mx, mdx, l, _, _, ks.length, rfl, rfl, X1.mix.at_, sq_of el, f.mok, cokF f, fun H2 s2 => q _ (Same.trans s1 s2)⟩
def F_Foreteller_weights (K : PySem.W.Frag) : V → Hp → VK → XK → Prop := fun x H Q _ => ∃ (a : Addr) (Fp : Addr → Prop) (ks : List Lk) (bits : List Int), x = .ref a ∧ ForAt K H a Fp ks bits ∧ ∀ l H', H l = none → Same H H' → H' l = some (.lst ((stF ks bits).ws.map V.int)) → Q (.ref l) H'
abbrev sp_Foreteller_weights (K : PySem.W.Frag) : Sp := on1 (F_Foreteller_weights K)
def F_Foreteller_node (K : PySem.W.Frag) : V → Hp → VK → XK → Prop := fun x H Q _ => ∃ (a : Addr) (Fp : Addr → Prop) (ks : List Lk) (bits : List Int), x = .ref a ∧ ForAt K H a Fp ks bits ∧ Q (.int (stF ks bits).place) H
abbrev sp_Foreteller_node (K : PySem.W.Frag) : Sp := on1 (F_Foreteller_node K)
def t_Foreteller_node (K : PySem.W.Frag) (E : XK) : TS :=
  tRet (tFld K (tVar 0) "place")
theorem pure_Foreteller_node {x : V} {H : Hp} {Q : VK} {E : XK} (h : F_Foreteller_node K x H Q E) : t_Foreteller_node K E ⟨fun _ H' => Q .non H', Q, fun _ _ => False, fun _ _ => False⟩ [some x] H := by
  obtain ⟨a, Fp, ks, bits, rfl, ⟨dx, k, bl, mx, mdx, sh, en, pa, las, bas, Fps, X⟩, q⟩ := h
  have ha := X.ins
  unfold t_Foreteller_node
  walk_at "go"
  exact q
def F_Foreteller_signs (K : PySem.W.Frag) : V → Hp → VK → XK → Prop := fun x H Q _ => ∃ (a : Addr) (Fp : Addr → Prop) (ks : List Lk) (bits : List Int), x = .ref a ∧ ForAt K H a Fp ks bits ∧ ∀ l H', H l = none → Same H H' → H' l = some (.lst ((stF ks bits).ended.map V.int)) → Q (.ref l) H'
abbrev sp_Foreteller_signs (K : PySem.W.Frag) : Sp := on1 (F_Foreteller_signs K)
def t_Foreteller_signs (K : PySem.W.Frag) (E : XK) : TS :=
  tRet (tCB (rListOf K) (tCons (tFld K (tVar 0) "ended") (tNil)))
theorem pure_Foreteller_signs {x : V} {H : Hp} {Q : VK} {E : XK} (h : F_Foreteller_signs K x H Q E) : t_Foreteller_signs K E ⟨fun _ H' => Q .non H', Q, fun _ _ => False, fun _ _ => False⟩ [some x] H := by
  obtain ⟨a, Fp, ks, bits, rfl, ⟨dx, k, bl, mx, mdx, sh, en, pa, las, bas, Fps, X⟩, q⟩ := h
  have ha := X.ins
  have he := X.end_
  unfold t_Foreteller_signs
  walk_at "go"
  intro l nl
  exact q l _ nl (same_new (Same.refl _) nl) upd_same
def F_Foreteller_go (K : PySem.W.Frag) : V → V → Hp → VK → XK → Prop := fun x y H Q _ => ∃ (a dx k bl mx en pa : Addr) (ended : List Int) (pl b : Int), x = .ref a ∧ y = .int b ∧ H a = some (.ins (He.ga K "Foreteller") dx (foreF k bl mx en pl pa)) ∧ H en = some (.lst (ended.map V.int)) ∧ ended.length ≤ 900000 ∧
  ∀ en' H', SameX (fun x => x = a ∨ x = en) H H' → (en' = en ∨ H en' = none) → H' a = some (.ins (He.ga K "Foreteller") dx (foreF k bl mx en' (goP pl b) pa)) → H' en' = some (.lst ((goE ended pl b).map V.int)) → Q .non H'
abbrev sp_Foreteller_go (K : PySem.W.Frag) : Sp := on2 (F_Foreteller_go K)
def t_Foreteller_go (K : PySem.W.Frag) (E : XK) : TS :=
  tIfS (tTest (tOp (iGt) (tFld K (tVar 0) "place") (tC (.int 0)))) (tSeq (sFld K (tVar 0) (tOp (rPlus K) (tOp (rTimes) (tC (.int 2)) (tFld K (tVar 0) "place")) (tVar 1)) "place")
  (tIfS (tTest (tOp (iGt) (tFld K (tVar 0) "place") (tC (.int 255)))) (tSeq (tDrop (tBM K "list" (rAppend) (tFld K (tVar 0) "ended") (tCons (tOp (rMinus) (tFld K (tVar 0) "place") (tC (.int 256))) (tNil))))
  (sFld K (tVar 0) (tC (.int 0)) "place")) (tNext))) (tIfS (tTest (tOp (rSame K) (tVar 1) (tC (.int 1)))) (sFld K (tVar 0) (tC (.int 1)) "place") (sFld K (tVar 0) (tLst (tNil)) "ended"))
theorem pure_Foreteller_go {x y : V} {H : Hp} {Q : VK} {E : XK} (h : F_Foreteller_go K x y H Q E) : t_Foreteller_go K E ⟨fun _ H' => Q .non H', Q, fun _ _ => False, fun _ _ => False⟩ [some x, some y] H := by
  obtain ⟨a, dx, k, bl, mx, en, pa, ended, pl, b, rfl, rfl, ha, he, hl, q⟩ := h
  have nea : en ≠ a := ne_kind he ha (by intro z; cases z)
  unfold goP goE at q
  unfold t_Foreteller_go
  walk_at "go"
  refine dif (fun h1 => ?_) fun h1 => ?_
  · rw [if_pos h1, if_pos h1] at q
    walk_at "go"
    refine dif (fun h2 => ?_) fun h2 => ?_
    · rw [if_pos h2, if_pos h2] at q
      have he2 := lk_mut (u := .ins (He.ga K "Foreteller") dx (foreF k bl mx en (2 * pl + b) pa)) nea he
      have ha2 := upd_same (H := H) (a := a) (o := .ins (He.ga K "Foreteller") dx (foreF k bl mx en (2 * pl + b) pa))
      have S : SameX (fun x => x = a ∨ x = en) H (upd H a (.ins (He.ga K "Foreteller") dx (foreF k bl mx en (2 * pl + b) pa))) := (SameX.refl H).mut (.inl rfl)
      generalize upd H a (.ins (He.ga K "Foreteller") dx (foreF k bl mx en (2 * pl + b) pa)) = H2 at he2 ha2 S
      walk_at "go"
      have ha3 := lk_mut (u := .lst (ended.map V.int ++ [.int (2 * pl + b - 256)])) nea.symm ha2
      have S := S.mut (a := en) (o := .lst (ended.map V.int ++ [.int (2 * pl + b - 256)])) (.inr rfl)
      have he3 := upd_same (H := H2) (a := en) (o := .lst (ended.map V.int ++ [.int (2 * pl + b - 256)]))
      generalize upd H2 en (.lst (ended.map V.int ++ [.int (2 * pl + b - 256)])) = H3 at he3 ha3 S
      walk_at "go"
      exact q en _ (S.mut (.inl rfl)) (.inl rfl) upd_same (by rw [upd_ne nea, he3, List.map_append]; rfl)
    · rw [if_neg h2, if_neg h2] at q
      walk_at "go"
      exact q en _ ((SameX.refl H).mut (.inl rfl)) (.inl rfl) upd_same (lk_mut nea he)
  · rw [if_neg h1, if_neg h1] at q
    walk_at "go"
    refine dif (fun h2 => ?_) fun h2 => ?_
    · rw [if_pos h2, if_pos h2] at q
      walk_at "go"
      exact q en _ ((SameX.refl H).mut (.inl rfl)) (.inl rfl) upd_same (lk_mut nea he)
    · rw [if_neg h2, if_neg h2] at q
      walk_at "go"
      intro l nl
      have nla : l ≠ a := fun z => by rw [z, ha] at nl; cases nl
      walk_at "go"
      exact q l _ (((SameX.refl H).new nl).mut (.inl rfl)) (.inr nl) upd_same (by rw [upd_ne nla, upd_same]; rfl)
end
/-! a foreteller sees; is made; forks -/
theorem SameX.grow {M N : Addr → Prop} {H H1 H2 : Hp} (s : SameX M H H1) (t : SameX N H1 H2) (h : ∀ x, N x → M x ∨ H x = none) : SameX M H H2 :=
  ⟨fun b o n e => t.kp b o (fun m => by
    rcases h b m with z | z
    · exact n z
    · rw [e] at z; cases z) (s.kp b o n e), fun b e => s.dm b (t.dm b e)⟩
section
variable (K : PySem.W.Frag) [HasCls K "Foreteller"] [HasNo K "Foreteller" "kinds"] [HasNo K "Foreteller" "books"] [HasNo K "Foreteller" "mixer"] [HasNo K "Foreteller" "ended"] [HasNo K "Foreteller" "place"] [HasNo K "Foreteller" "past"]
def F_Foreteller_see (K : PySem.W.Frag) : V → V → Hp → VK → XK → Prop := fun x y H Q E => ∃ (a : Addr) (Fp : Addr → Prop) (ks : List Lk) (bits : List Int), x = .ref a ∧ ForAt K H a Fp ks bits ∧ LksOk ks ∧ Bits bits ∧ bits.length ≤ 800000 ∧ TyW K H y ∧
  (btw 0 1 y = false → E (.ref (He.ga K "NoBit")) none H) ∧ ∀ b : Int, y = .int b → 0 ≤ b → b ≤ 1 → ∀ Fp' H', SameX Fp H H' → (∀ x, Fp' x → Fp x ∨ H x = none) → ForAt K H' a Fp' ks (bits ++ [b]) → Q .non H'
abbrev sp_Foreteller_see (K : PySem.W.Frag) : Sp := on2 (F_Foreteller_see K)
def t_Foreteller_see (K : PySem.W.Frag) (E : XK) : TS :=
  tSeq (tAsg (tFun (sp_checked_bit K) [] (fun _ => E) (tCons (tVar 1) (tNil))) (gName 2))
  (tSeq (tAsg (tMth "chances" (one (He.ga K "Foreteller") (sp_Foreteller_chances K)) (fun _ => E) (tVar 0) (tNil)) (gName 3))
  (tSeq (tFor (iList K (tFld K (tVar 0) "books")) (gName 4) (tDrop (tMth "seen" (one (He.ga K "Book") (sp_Book_seen K)) (fun _ => E) (tVar 4) (tCons (tFld K (tVar 0) "ended") (tCons (tFld K (tVar 0) "place") (tCons (tVar 2) (tNil)))))))
  (tSeq (tDrop (tMth "learn" (one (He.ga K "Mixer") (sp_Mixer_learn K)) (fun _ => E) (tFld K (tVar 0) "mixer") (tCons (tVar 3) (tCons (tVar 2) (tNil)))))
  (tSeq (tDrop (tBM K "list" (rAppend) (tFld K (tVar 0) "past") (tCons (tVar 2) (tNil))))
  (tDrop (tMth "go" (one (He.ga K "Foreteller") (sp_Foreteller_go K)) (fun _ => E) (tVar 0) (tCons (tVar 2) (tNil))))))))
theorem pure_Foreteller_see {x y : V} {H : Hp} {Q : VK} {E : XK} (h : F_Foreteller_see K x y H Q E) : t_Foreteller_see K E ⟨fun _ H' => Q .non H', Q, fun _ _ => False, fun _ _ => False⟩ [some x, some y, none, none, none] H := by
  obtain ⟨a, Fp, ks, bits, rfl, A, ok, hbs, hn, ty, r, q⟩ := h
  have A0 := A
  obtain ⟨dx, k, bl, mx, mdx, sh, en, pa, las, bas, Fps, X⟩ := A
  have ha := X.ins
  have f := fokF ok hbs
  have l6 := ok.l6
  have bn := X.bln
  unfold t_Foreteller_see
  walk_at "go"
  refine ⟨ty, fun hy => ?_, r⟩
  obtain ⟨b, rfl, b1, b2⟩ := btw_int hy
  have q := q b rfl b1 b2
  have st_s := stF_snoc ks bits b
  walk_at "go"
  refine ⟨a, Fp, ks, bits, rfl, A0, ok, hbs, fun l H1 nl s1 el => ?_⟩
  have q : ∀ Fp' H', SameX Fp H H' → (∀ x, Fp' x → Fp x ∨ H x = none) → (∃ dx k bl mx mdx sh en pa las bas Fps, ForX K H' a dx k bl mx mdx sh en pa las bas Fps Fp' ks (seeF ks (stF ks bits) b) (bits ++ [b])) → Q .non H' := fun Fp' H' s g h => q Fp' H' s g (by unfold ForAt; rw [st_s]; exact h)
  have X1 := X.same s1
  generalize stF ks bits = st at f el X1 q st_s X ha
  have ha1 := X1.ins
  have hen := f.en
  clear A0 ha
  walk_at "go"
  have nlB : ∀ {c : Addr} {xs : List V}, H1 c = some (.lst xs) → ¬ ∃ j, Fps j c := fun e ⟨j, z⟩ => by
    obtain ⟨o, ho, m⟩ := X1.boo.dom _ _ z
    rw [e] at ho
    cases ho
    exact m.l _ rfl
  have naB : ¬ ∃ j, Fps j a := fun ⟨j, z⟩ => (X1.own j a z).1 rfl
  have nmB : ¬ ∃ j, Fps j mx := fun ⟨j, z⟩ => (X1.own j mx z).2 rfl
  refine for_L (sq_of X1.bks) (fun i σ H2 => ∃ u Fps', σ = [some (.ref a), some (.int b), some (.int b), some (.ref l), u] ∧ SameX (fun x => ∃ j, Fps j x) H1 H2 ∧ BooksAt K H2 bas Fps' (fun j => if j < i then bkS ks st b j else st.bk j) ks (fun j => if j < i then bits.length + 1 else bits.length) ∧ ∀ j x, Fps' j x → Fps j x ∨ H1 x = none) ?_ ?_ ?_ ?_
  · refine ⟨_, Fps, rfl, SameX.refl _, ?_, fun j x h => .inl h⟩
    have e1 : (fun j => if j < 0 then bkS ks st b j else st.bk j) = st.bk := by funext j; rw [if_neg (Nat.not_lt_zero _)]
    have e2 : (fun j => if j < 0 then bits.length + 1 else bits.length) = fun _ => bits.length := by funext j; rw [if_neg (Nat.not_lt_zero _)]
    rw [e1, e2]
    exact X1.boo
  · rintro i σ H2 ⟨u, Fps', rfl, s, -, -⟩
    exact sq_of (s.kp _ _ (nlB X1.bks) X1.bks)
  · rintro i v σ H2 hv ⟨u, Fps', rfl, s, B, g⟩
    obtain ⟨ba, hba, rfl⟩ := map_at hv
    have hi := (List.getElem?_eq_some_iff.mp hba).1
    have hk : ks[i]? = some (ks[i]'(by omega)) := List.getElem?_eq_getElem (by omega)
    generalize ks[i]'(by omega) = kk at hk
    have ha2 := s.kp _ _ naB ha1
    have he2 := s.kp _ _ (nlB X1.end_) X1.end_
    have Bi := B.boo i ba kk hba hk
    rw [if_neg (Nat.lt_irrefl _), if_neg (Nat.lt_irrefl _)] at Bi
    have Bi0 := Bi
    obtain ⟨bx, bla, bd, bkv, BX⟩ := Bi
    have hbi := BX.ins
    walk_at "go"
    refine ⟨ba, en, Fps' i, kk, _, _, _, _, rfl, rfl, rfl, Bi0, by omega, ok.all _ (List.mem_of_getElem? hk), sq_of he2, .int, (fun z => by rw [hy] at z; cases z), fun b' e' _ _ Fp2 H3 s3 g3 B3 => ?_⟩
    cases e'
    walk_at "go"
    refine ⟨_, fun j => if j = i then Fp2 else Fps' j, rfl, s.grow s3 fun x hx => ?_, ⟨fun j b' k' hb' hk' => ?_, fun j j' x hne h1 h2 => ?_, fun j x hx => ?_⟩, fun j x hx => ?_⟩
    · rcases g i x hx with z | z
      · exact .inl ⟨i, z⟩
      · exact .inr z
    · by_cases z : j = i
      · subst z
        rw [hba] at hb'
        rw [hk] at hk'
        cases hb'
        cases hk'
        rw [if_pos rfl, if_pos (Nat.lt_succ_self _), if_pos (Nat.lt_succ_self _)]
        unfold bkS
        rw [hk]
        exact B3
      · have Bj := B.boo j b' k' hb' hk'
        have e1 : (if j < i + 1 then bkS ks st b j else st.bk j) = if j < i then bkS ks st b j else st.bk j := by
          by_cases y : j < i
          · rw [if_pos y, if_pos (by omega)]
          · rw [if_neg y, if_neg (by omega)]
        have e2 : (if j < i + 1 then bits.length + 1 else bits.length) = if j < i then bits.length + 1 else bits.length := by
          by_cases y : j < i
          · rw [if_pos y, if_pos (by omega)]
          · rw [if_neg y, if_neg (by omega)]
        rw [if_neg z, e1, e2]
        exact Bj.keep s3 (fun x hx hx' => B.dj j i x z hx hx') fun x xs hx hx' => Bi0.nt hx hx'
    · have new : ∀ j, j ≠ i → Fps' j x → Fp2 x → False := fun j hj h1 h2 => by
        rcases g3 x h2 with z | z
        · exact B.dj j i x hj h1 z
        · obtain ⟨o, ho, _⟩ := B.dom j x h1
          rw [z] at ho
          cases ho
      by_cases z1 : j = i
      · rw [if_pos z1] at h1
        by_cases z2 : j' = i
        · exact hne (by rw [z1, z2])
        · rw [if_neg z2] at h2
          exact new _ z2 h2 h1
      · rw [if_neg z1] at h1
        by_cases z2 : j' = i
        · rw [if_pos z2] at h2
          exact new _ z1 h1 h2
        · rw [if_neg z2] at h2
          exact B.dj _ _ _ hne h1 h2
    · have hx : (if j = i then Fp2 else Fps' j) x := hx
      by_cases z : j = i
      · rw [if_pos z] at hx
        exact B3.dom x hx
      · rw [if_neg z] at hx
        obtain ⟨o, ho, m⟩ := B.dom j x hx
        exact ⟨o, s3.kp _ _ (fun y => B.dj j i x z hx y) ho, m⟩
    · have hx : (if j = i then Fp2 else Fps' j) x := hx
      by_cases z : j = i
      · rw [if_pos z] at hx
        rcases g3 x hx with y | y
        · rw [z]; exact g i x y
        · exact .inr (s.dm _ y)
      · rw [if_neg z] at hx
        exact g j x hx
  · rintro σ H2 ⟨u, Fps2, rfl, s, B, g⟩
    rw [List.length_map] at B
    have B : BooksAt K H2 bas Fps2 (bkS ks st b) ks fun _ => bits.length + 1 := ⟨fun i b' k' hb' hk' => by
      have hi := (List.getElem?_eq_some_iff.mp hb').1
      have z := B.boo i b' k' hb' hk'
      rw [if_pos hi, if_pos hi] at z
      exact z, B.dj, B.dom⟩
    have ha2 := s.kp _ _ naB ha1
    have he2 := s.kp _ _ (nlB X1.end_) X1.end_
    have hp2 := s.kp _ _ (nlB X1.pas) X1.pas
    have hk2 := s.kp _ _ (nlB X1.kin.lst) X1.kin.lst
    have hb2 := s.kp _ _ (nlB X1.bks) X1.bks
    have hm2 := s.kp _ _ nmB X1.mix.ins
    have hs2 := s.kp _ _ (nlB X1.mix.lst) X1.mix.lst
    have el2 := s.kp _ _ (nlB el) el
    have ntB : ∀ x xs, H1 x = some (.tup xs) → ¬ ∃ j, Fps j x := fun x xs e ⟨j, z⟩ => by
      obtain ⟨o, ho, m⟩ := X1.boo.dom _ _ z
      rw [e] at ho
      cases ho
      exact m.t _ rfl
    have hl2 : ∀ (i : Nat) a k, las[i]? = some a → ks[i]? = some k → LookH H2 a k := fun i a k h1 h2 => (X1.kin.at_ i a k h1 h2).keep s ntB
    have own2 : ∀ i x, Fps2 i x → x ≠ a ∧ x ≠ mx := fun i x hx => by
      rcases g i x hx with z | z
      · exact X1.own i x z
      · exact ⟨fun e => (by rw [e, ha1] at z; cases z), fun e => (by rw [e, X1.mix.ins] at z; cases z)⟩
    walk_at "go"
    refine ⟨mx, mdx, l, st.ws, chancesF ks st, ks.length, rfl, rfl, ⟨sh, hm2, hs2⟩, sq_of el2, f.mok, cokF f, .int, (fun z => by rw [hy] at z; cases z), fun t e _ _ sh3 H3 nsh s3 M3 => ?_⟩
    cases e
    have kl : ∀ {x : Addr} {xs : List V}, H2 x = some (.lst xs) → H3 x = some (.lst xs) := fun e => s3.kp _ _ (ne_kind e hm2 (by intro z; cases z)) e
    have ha3 := s3.kp _ _ X1.nam ha2
    have he3 := kl he2
    have hp3 := kl hp2
    have hk3 := kl hk2
    have hb3 := kl hb2
    have B3 := B.keep s3 (fun i x hx => (own2 i x hx).2) fun x xs hx => ne_kind hx hm2 (by intro z; cases z)
    have hl3 : ∀ (i : Nat) a k, las[i]? = some a → ks[i]? = some k → LookH H3 a k := fun i a k h1 h2 => (hl2 i a k h1 h2).keep s3 fun x xs hx => ne_kind hx hm2 (by intro z; cases z)
    have n1 : sh3 ≠ pa := fun z => by rw [z, hp2] at nsh; cases nsh
    have n2 : sh3 ≠ a := fun z => by rw [z, ha2] at nsh; cases nsh
    have n3 : sh3 ≠ en := fun z => by rw [z, he2] at nsh; cases nsh
    have S3 : SameX Fp H H3 := ((SameX.of s1 : SameX Fp H H1).grow s fun x ⟨j, hx⟩ => .inl (X.covb j x hx)).grow s3 fun x hx => .inl (by rw [hx]; exact X.cov.2.2.2.1)
    have nshH : H sh3 = none := s1.free (s.dm _ nsh)
    have g3 : ∀ j x, Fps2 j x → Fp x ∨ H x = none := fun j x hx => by
      rcases g j x hx with z | z
      · exact .inl (X.covb j x z)
      · exact .inr (s1.free z)
    have own3 : ∀ i x, Fps2 i x → x ≠ a ∧ x ≠ mx := own2
    clear own2 hl2 kl el2 hs2 hm2 hb2 hk2 hp2 he2 ha2 g B s nsh
    walk_at "go"
    have pl : bits.length ≤ 800000 := hn
    have neap : a ≠ pa := (ne_kind hp3 ha3 (by intro z; cases z)).symm
    have ha4 := lk_mut (u := .lst (bits.map V.int ++ [.int b])) neap ha3
    have he4 := lk_mut (u := .lst (bits.map V.int ++ [.int b])) X1.nep he3
    have hk4 := lk_mut (u := .lst (bits.map V.int ++ [.int b])) X1.npk.1.symm hk3
    have hb4 := lk_mut (u := .lst (bits.map V.int ++ [.int b])) X1.npk.2.1.symm hb3
    have hm4 := lk_mut (u := .lst (bits.map V.int ++ [.int b])) (ne_kind hp3 M3.ins (by intro z; cases z)).symm M3.ins
    have hs4 := lk_mut (u := .lst (bits.map V.int ++ [.int b])) n1 M3.lst
    have S4 := S3.mut (a := pa) (o := .lst (bits.map V.int ++ [.int b])) X.cov.2.2.2.2.2.2
    have hp4 := upd_same (H := H3) (a := pa) (o := .lst (bits.map V.int ++ [.int b]))
    have X34 : SameX (· = pa) H3 (upd H3 pa (.lst (bits.map V.int ++ [.int b]))) := (SameX.refl (M := (· = pa)) H3).mut rfl
    have B4 := B3.keep X34 (fun i x hx z => by
      obtain ⟨o, ho, m⟩ := B3.dom i x hx
      rw [z, hp3] at ho
      cases ho
      exact m.l _ rfl) fun x xs hx => ne_kind hx hp3 (by intro z; cases z)
    have hl4 : ∀ (i : Nat) a k, las[i]? = some a → ks[i]? = some k → LookH (upd H3 pa (.lst (bits.map V.int ++ [.int b]))) a k := fun i a k h1 h2 => (hl3 i a k h1 h2).keep X34 fun x xs hx => ne_kind hx hp3 (by intro z; cases z)
    generalize upd H3 pa (.lst (bits.map V.int ++ [.int b])) = H4 at ha4 he4 hk4 hb4 hm4 hs4 S4 hp4 B4 hl4
    clear X34 hl3 B3 hb3 hk3 hp3 he3 ha3 s3 M3
    walk_at "go"
    refine ⟨a, dx, k, bl, mx, en, pa, st.ended, st.place, b, rfl, rfl, ha4, he4, by omega, fun en5 H5 s5 hen5 ha5 he5 => ?_⟩
    have nea : en ≠ a := ne_kind he4 ha4 (by intro z; cases z)
    have kk5 : ∀ {x : Addr} {o : HO}, H4 x = some o → x ≠ a → x ≠ en → H5 x = some o := fun e h1 h2 => s5.kp _ _ (not_or.mpr ⟨h1, h2⟩) e
    have nla : ∀ {x : Addr} {xs : List V}, H4 x = some (.lst xs) → x ≠ a := fun e => ne_kind e ha4 (by intro z; cases z)
    have hk5 := kk5 hk4 (nla hk4) X1.nek.1.symm
    have hb5 := kk5 hb4 (nla hb4) X1.nek.2.1.symm
    have hm5 := kk5 hm4 X1.nam.symm (ne_kind he4 hm4 (by intro z; cases z)).symm
    have hs5 := kk5 hs4 n2 n3
    have hp5 := kk5 hp4 neap.symm X1.nep.symm
    have ntM : ∀ x xs, H4 x = some (.tup xs) → ¬ (x = a ∨ x = en) := fun x xs hx => not_or.mpr ⟨ne_kind hx ha4 (by intro z; cases z), ne_kind hx he4 (by intro z; cases z)⟩
    have B5 := B4.keep s5 (fun i x hx => not_or.mpr ⟨(own3 i x hx).1, fun z => by
      obtain ⟨o, ho, m⟩ := B4.dom i x hx
      rw [z, he4] at ho
      cases ho
      exact m.l _ rfl⟩) ntM
    have e5 : ∀ {x : Addr} {o : HO}, H4 x = some o → en ≠ x → en5 ≠ x := fun e h => by
      rcases hen5 with z | z
      · rw [z]; exact h
      · exact fun y => by rw [y, e] at z; cases z
    have S5 : SameX Fp H H5 := S4.grow s5 fun x hx => .inl (by
      rcases hx with z | z
      · rw [z]; exact X.cov.1
      · rw [z]; exact X.cov.2.2.2.2.2.1)
    refine q (fun x => x = a ∨ x = k ∨ x = bl ∨ x = mx ∨ x = sh3 ∨ x = en5 ∨ x = pa ∨ ∃ j, Fps2 j x) H5 S5 (fun x hx => ?_) ⟨dx, k, bl, mx, mdx, sh3, en5, pa, las, bas, Fps2,
      ⟨ha5, ⟨hk5, X1.kin.len, fun i a k h1 h2 => (hl4 i a k h1 h2).keep s5 ntM⟩, hb5, bn, ?_, ⟨hm5, hs5⟩, he5, by rw [hp5, List.map_append]; rfl, own3, X1.nam, e5 hp4 X1.nep, ⟨e5 hk4 X1.nek.1, e5 hb4 X1.nek.2.1, e5 hs4 n3.symm⟩, ⟨X1.npk.1, X1.npk.2.1, n1.symm⟩,
        ⟨.inl rfl, .inr (.inl rfl), .inr (.inr (.inl rfl)), .inr (.inr (.inr (.inl rfl))), .inr (.inr (.inr (.inr (.inl rfl)))), .inr (.inr (.inr (.inr (.inr (.inl rfl))))), .inr (.inr (.inr (.inr (.inr (.inr (.inl rfl))))))⟩, fun j x hx => .inr (.inr (.inr (.inr (.inr (.inr (.inr ⟨j, hx⟩)))))), fun x hx => ?_⟩⟩
    · obtain ⟨c1, c2, c3, c4, c5, c6, c7⟩ := X.cov
      rcases hx with rfl | rfl | rfl | rfl | rfl | rfl | rfl | ⟨j, hx⟩
      · exact .inl c1
      · exact .inl c2
      · exact .inl c3
      · exact .inl c4
      · exact .inr nshH
      · rcases hen5 with z | z
        · rw [z]; exact .inl c6
        · exact .inr (S4.dm _ z)
      · exact .inl c7
      · exact g3 j x hx
    · rw [show (fun _ : Nat => (bits ++ [b]).length) = fun _ => bits.length + 1 from by funext j; rw [List.length_append]; rfl]
      exact B5
    · rcases hx with rfl | rfl | rfl | rfl | rfl | rfl | rfl | ⟨j, hx⟩
      · exact ⟨_, ha5, fun xs z => nomatch z⟩
      · exact ⟨_, hk5, fun xs z => nomatch z⟩
      · exact ⟨_, hb5, fun xs z => nomatch z⟩
      · exact ⟨_, hm5, fun xs z => nomatch z⟩
      · exact ⟨_, hs5, fun xs z => nomatch z⟩
      · exact ⟨_, he5, fun xs z => nomatch z⟩
      · exact ⟨_, hp5, fun xs z => nomatch z⟩
      · obtain ⟨o, ho, m⟩ := B5.dom j x hx
        exact ⟨o, ho, m.t⟩
end
/-! a foreteller is made; forks -/
section
variable (K : PySem.W.Frag) [HasCls K "Foreteller"] [HasNo K "Foreteller" "kinds"] [HasNo K "Foreteller" "books"] [HasNo K "Foreteller" "mixer"] [HasNo K "Foreteller" "ended"] [HasNo K "Foreteller" "place"] [HasNo K "Foreteller" "past"]
def F_Foreteller_init (K : PySem.W.Frag) : V → V → Hp → VK → XK → Prop := fun x y H Q E => ∃ (a dx : Addr), x = .ref a ∧ H a = some (.ins (He.ga K "Foreteller") dx []) ∧
  ((LsT K H y false ∧ ∀ H', Same H H' → E (.ref (He.ga K "NoLooks")) none H') ∨ ∃ (l : Addr) (las : List Addr) (ks : List Lk), y = .ref l ∧ LooksH H l las ks ∧ LksOk ks ∧
    ∀ Fp H', (∀ b, Fp b → b = a ∨ H b = none) → SameX (· = a) H H' → ForAt K H' a Fp ks [] → Q .non H')
abbrev sp_Foreteller_init (K : PySem.W.Frag) : Sp := on2 (F_Foreteller_init K)
theorem LooksH.keep {M : Addr → Prop} {H H1 : Hp} {l : Addr} {as : List Addr} {ks : List Lk} (h : LooksH H l as ks) (s : SameX M H H1) (nl : ¬ M l) (nt : ∀ b xs, H b = some (.tup xs) → ¬ M b) : LooksH H1 l as ks := ⟨s.kp _ _ nl h.lst, h.len, fun i a k ha hk => (h.at_ i a k ha hk).keep s nt⟩
def t_Foreteller_init (K : PySem.W.Frag) (E : XK) : TS :=
  tSeq (sFld K (tVar 0) (tFun (sp_checked_looks K) [] (fun _ => E) (tCons (tVar 1) (tNil))) "kinds")
  (tSeq (sFld K (tVar 0) (tLc (iList K (tFld K (tVar 0) "kinds")) (gName 2) (tYes) (tNew (He.ga K "Book") (sp_Book_init K) [] (fun _ => E0) (tCons (tVar 2) (tNil))) [2]) "books")
  (tSeq (sFld K (tVar 0) (tNew (He.ga K "Mixer") (sp_Mixer_init K) [] (fun _ => E) (tCons (tCB (rLength K) (tCons (tFld K (tVar 0) "books") (tNil))) (tNil))) "mixer")
  (tSeq (sFld K (tVar 0) (tLst (tNil)) "ended")
  (tSeq (sFld K (tVar 0) (tC (.int 0)) "place")
  (sFld K (tVar 0) (tLst (tNil)) "past")))))
theorem pure_Foreteller_init {x y : V} {H : Hp} {Q : VK} {E : XK} (h : F_Foreteller_init K x y H Q E) : t_Foreteller_init K E ⟨fun _ H' => Q .non H', Q, fun _ _ => False, fun _ _ => False⟩ [some x, some y, none] H := by
  obtain ⟨a, dx, rfl, ha, h⟩ := h
  unfold t_Foreteller_init
  walk_at "go"
  rcases h with ⟨T, r⟩ | ⟨l, las, ks, rfl, L, ok, q⟩
  · exact ⟨false, T, fun _ => r, fun z => nomatch z⟩
  refine looks_of L ok fun k H1 nk s1 Lk => ?_
  have ha1 := s1 _ _ ha
  have l6 := ok.l6
  have ll := Lk.len
  have nka : k ≠ a := ne_kind Lk.lst ha1 (by intro z; cases z)
  have S : SameX (· = a) H H1 := SameX.of s1
  walk_at "go"
  have X1 : SameX (· = a) H1 (upd H1 a (.ins (He.ga K "Foreteller") dx [("kinds", .ref k)])) := (SameX.refl (M := (· = a)) H1).mut rfl
  have S := S.trans X1
  have Lk := Lk.keep X1 nka fun b xs hb => ne_kind hb ha1 (by intro z; cases z)
  have ha2 := upd_same (H := H1) (a := a) (o := .ins (He.ga K "Foreteller") dx [("kinds", .ref k)])
  generalize upd H1 a (.ins (He.ga K "Foreteller") dx [("kinds", .ref k)]) = H2 at ha2 Lk S
  clear X1 ha1
  have hk2 := Lk.lst
  have S2 := S
  walk_at "go"
  refine lc_LN (sq_of Lk.lst) (by rw [List.length_map]; omega) (fun D i ys H3 => H2 D = none ∧ ∃ bas Fps, ys = bas.map V.ref ∧ bas.length = i ∧ i ≤ las.length ∧ Same H2 H3 ∧ H3 D = some (.lst ys) ∧ BooksAt K H3 bas Fps (st0 ks).bk ks (fun _ => 0) ∧ ∀ j x, Fps j x → H2 x = none ∧ x ≠ D)
    (fun D hD => ⟨hD, [], fun _ _ => False, rfl, rfl, Nat.zero_le _, same_new (Same.refl _) hD, upd_same, ⟨fun i b k hb => by simp at hb, fun _ _ _ _ z => z.elim, fun _ _ z => z.elim⟩, fun _ _ z => z.elim⟩) ?_ ?_ ?_
  · rintro D i ys H3 ⟨hD, bas, Fps, rfl, rfl, hi, s, eD, B, g⟩
    exact ⟨sq_of (s _ _ Lk.lst), eD, by rw [List.length_map]⟩
  · rintro D i v ys H3 Q2 hv ⟨hD, bas, Fps, rfl, bi, hi, s, eD, B, g⟩ q2
    obtain ⟨la, hla, rfl⟩ := map_at hv
    have hi := (List.getElem?_eq_some_iff.mp hla).1
    have hk : ks[i]? = some (ks[i]'(by omega)) := List.getElem?_eq_getElem (by omega)
    have hkd : (ks.getD i ("", [])) = ks[i]'(by omega) := by rw [List.getD_eq_getElem?_getD, hk]; rfl
    generalize ks[i]'(by omega) = kk at hk hkd
    walk_at "go"
    intro b bx nb nbx nbb
    have nb' : upd H3 bx (.own b) b = none := by rw [upd_ne nbb.symm]; exact nb
    have S0 := same_new (u := .ins (He.ga K "Book") bx []) (same_new (u := .own b) (Same.refl H3) nbx) nb'
    have S3 := Same.trans s S0
    walk_at "go"
    refine ⟨b, bx, la, kk, rfl, rfl, upd_same, (Lk.at_ i la kk hla hk).same S3, fun Fb H4 gb s4 B4 => ⟨rfl, ?_⟩⟩
    have s34 : Same H3 H4 := SameX.back1 S0 s4 nb
    have fb3 : ∀ x, Fb x → H3 x = none := fun x hx => by
      rcases gb x hx with z | z
      · rw [z]; exact nb
      · exact upd_none (upd_none z)
    refine q2 _ _ (s34 _ _ eD) ⟨hD, bas ++ [b], fun j => if j = i then Fb else Fps j, by rw [List.map_append]; rfl, by rw [List.length_append, List.length_singleton, bi], by omega, same_mut (Same.trans s s34) hD, upd_same, ⟨fun j b' k' hb' hk' => ?_, fun j j' x hne h1 h2 => ?_, fun j x hx => ?_⟩, fun j x hx => ?_⟩
    · have XD : SameX (· = D) H4 (upd H4 D (.lst (bas.map V.ref ++ [.ref b]))) := (SameX.refl (M := (· = D)) H4).mut rfl
      have eD4 := s34 _ _ eD
      by_cases z : j = i
      · subst z
        rw [hk] at hk'
        cases hk'
        have : b' = b := by
          rw [List.getElem?_append_right (by omega), bi, Nat.sub_self] at hb'
          cases hb'
          rfl
        subst this
        rw [if_pos rfl]
        have e0 : (st0 ks).bk j = fresh kk.1 := by show fresh (ks.getD j ("", [])).1 = _; rw [hkd]
        rw [e0]
        exact B4.keep XD (fun x hx => fun y => by rw [y] at hx; exact B4.nl eD4 hx) fun x xs hx => ne_kind hx eD4 (by intro z; cases z)
      · rw [if_neg z]
        have hj : bas[j]? = some b' := by
          rw [List.getElem?_append] at hb'
          split at hb'
          · exact hb'
          · rename_i c
            have := (List.getElem?_eq_some_iff.mp hb').1
            rw [List.length_singleton] at this
            omega
        have Bj := (B.boo j b' k' hj hk').same s34
        exact Bj.keep XD (fun x hx => fun y => by rw [y] at hx; exact Bj.nl eD4 hx) fun x xs hx => ne_kind hx eD4 (by intro z; cases z)
    · have new : ∀ j, Fps j x → Fb x → False := fun j h1 h2 => by
        obtain ⟨o, ho, _⟩ := B.dom j x h1
        rw [fb3 x h2] at ho
        cases ho
      by_cases z1 : j = i
      · rw [if_pos z1] at h1
        by_cases z2 : j' = i
        · exact hne (by rw [z1, z2])
        · rw [if_neg z2] at h2
          exact new _ h2 h1
      · rw [if_neg z1] at h1
        by_cases z2 : j' = i
        · rw [if_pos z2] at h2
          exact new _ h1 h2
        · rw [if_neg z2] at h2
          exact B.dj _ _ _ hne h1 h2
    · have hx : (if j = i then Fb else Fps j) x := hx
      have go : ∀ o, H4 x = some o → MutO o → ∃ o, (upd H4 D (.lst (bas.map V.ref ++ [.ref b]))) x = some o ∧ MutO o := fun o ho m => ⟨o, by
        rw [upd_ne (fun y => by rw [y, s34 _ _ eD] at ho; cases ho; exact m.l _ rfl)]
        exact ho, m⟩
      by_cases z : j = i
      · rw [if_pos z] at hx
        obtain ⟨o, ho, m⟩ := B4.dom x hx
        exact go o ho m
      · rw [if_neg z] at hx
        obtain ⟨o, ho, m⟩ := B.dom j x hx
        exact go o (s34 _ _ ho) m
    · have hx : (if j = i then Fb else Fps j) x := hx
      by_cases z : j = i
      · rw [if_pos z] at hx
        have h3 := fb3 x hx
        exact ⟨s.free h3, fun y => by rw [y, eD] at h3; cases h3⟩
      · rw [if_neg z] at hx
        exact g j x hx
  · rintro bl ys H3 ⟨nbl, bas, Fps, rfl, bln, -, s3, ebl, B, g⟩
    rw [List.length_map] at bln
    have ha3 := s3 _ _ ha2
    have Lk := Lk.same s3
    have S := S.trans (SameX.of s3)
    have nba : bl ≠ a := ne_kind ebl ha3 (by intro z; cases z)
    have nbk : bl ≠ k := fun z => by rw [z, hk2] at nbl; cases nbl
    have nblH : H bl = none := S2.dm _ nbl
    have gH : ∀ j x, Fps j x → H x = none ∧ x ≠ a := fun j x hx => by
      have z := (g j x hx).1
      exact ⟨S2.dm _ z, fun y => by rw [y, ha2] at z; cases z⟩
    clear g s3 nbl ha2
    walk_at "go"
    have X1 : SameX (· = a) H3 (upd H3 a (.ins (He.ga K "Foreteller") dx [("kinds", .ref k), ("books", .ref bl)])) := (SameX.refl (M := (· = a)) H3).mut rfl
    have nt3 : ∀ b xs, H3 b = some (.tup xs) → ¬ b = a := fun b xs hb => ne_kind hb ha3 (by intro z; cases z)
    have S := S.trans X1
    have Lk := Lk.keep X1 nka nt3
    have B := B.keep X1 (fun j x hx => (gH j x hx).2) nt3
    have ebl := X1.kp _ _ nba ebl
    have ha4 := upd_same (H := H3) (a := a) (o := .ins (He.ga K "Foreteller") dx [("kinds", .ref k), ("books", .ref bl)])
    generalize upd H3 a (.ins (He.ga K "Foreteller") dx [("kinds", .ref k), ("books", .ref bl)]) = H4 at ha4 Lk S B ebl
    clear X1 nt3 ha3
    walk_at "go"
    intro mx mdx nmx nmdx nmd
    have nma : a ≠ mx := fun z => by rw [← z, ha4] at nmx; cases nmx
    have nmH : H mx = none := S.dm _ nmx
    have nm' : upd H4 mdx (.own mx) mx = none := by rw [upd_ne nmd.symm]; exact nmx
    have s5 := same_new (u := .ins (He.ga K "Mixer") mdx []) (same_new (u := .own mx) (Same.refl H4) nmdx) nm'
    walk_at "go"
    refine ⟨mx, mdx, ks.length, rfl, by rw [List.length_map, bln, ll], l6, upd_same, fun sh H6 nsh s6 M6 => ⟨rfl, ?_⟩⟩
    have s46 : Same H4 H6 := SameX.back1 s5 s6 nmx
    have nsh4 : H4 sh = none := upd_none (upd_none nsh)
    have nshH : H sh = none := S.dm _ nsh4
    have nsk : sh ≠ k := fun z => by rw [z, Lk.lst] at nsh4; cases nsh4
    have nsb : sh ≠ bl := fun z => by rw [z, ebl] at nsh4; cases nsh4
    have nsa : sh ≠ a := fun z => by rw [z, ha4] at nsh4; cases nsh4
    have gm : ∀ j x, Fps j x → x ≠ mx := fun j x hx y => by
      obtain ⟨o, ho, _⟩ := B.dom j x hx
      rw [y, nmx] at ho
      cases ho
    have ha4 := s46 _ _ ha4
    have ebl := s46 _ _ ebl
    have Lk := Lk.same s46
    have B := B.same s46
    have S := S.trans (SameX.of s46)
    clear s46 nsh nsh4 s6 s5 nmx nmdx nmd nm'
    walk_at "go"
    have X1 : SameX (· = a) H6 (upd H6 a (.ins (He.ga K "Foreteller") dx [("kinds", .ref k), ("books", .ref bl), ("mixer", .ref mx)])) := (SameX.refl (M := (· = a)) H6).mut rfl
    have nt3 : ∀ b xs, H6 b = some (.tup xs) → ¬ b = a := fun b xs hb => ne_kind hb ha4 (by intro z; cases z)
    have S := S.trans X1
    have Lk := Lk.keep X1 nka nt3
    have B := B.keep X1 (fun j x hx => (gH j x hx).2) nt3
    have ebl := X1.kp _ _ nba ebl
    have em := X1.kp _ _ nma.symm M6.ins
    have es := X1.kp _ _ nsa M6.lst
    have ha7 := upd_same (H := H6) (a := a) (o := .ins (He.ga K "Foreteller") dx [("kinds", .ref k), ("books", .ref bl), ("mixer", .ref mx)])
    generalize upd H6 a (.ins (He.ga K "Foreteller") dx [("kinds", .ref k), ("books", .ref bl), ("mixer", .ref mx)]) = H7 at ha7 Lk S B ebl em es
    clear X1 nt3 ha4 M6
    intro en nen
    have nenH : H en = none := S.dm _ nen
    have e1 : en ≠ k := fun z => by rw [z, Lk.lst] at nen; cases nen
    have e2 : en ≠ bl := fun z => by rw [z, ebl] at nen; cases nen
    have e3 : en ≠ sh := fun z => by rw [z, es] at nen; cases nen
    have e4 : en ≠ a := fun z => by rw [z, ha7] at nen; cases nen
    have S := S.new (o := .lst []) nen
    have ee : (upd H7 en (.lst [])) en = some (.lst []) := upd_same
    have ha7 := lk_new (u := .lst []) ha7 nen
    have ebl := lk_new (u := .lst []) ebl nen
    have em := lk_new (u := .lst []) em nen
    have es := lk_new (u := .lst []) es nen
    have Lk := Lk.same (same_new (u := .lst []) (Same.refl _) nen)
    have B := B.same (same_new (u := .lst []) (Same.refl _) nen)
    generalize upd H7 en (.lst []) = H8 at ee ha7 ebl em es Lk B S
    clear nen
    walk_at "go"
    have X1 : SameX (· = a) H8 (upd H8 a (.ins (He.ga K "Foreteller") dx [("kinds", .ref k), ("books", .ref bl), ("mixer", .ref mx), ("ended", .ref en), ("place", .int 0)])) := (SameX.refl (M := (· = a)) H8).mut rfl
    have nt3 : ∀ b xs, H8 b = some (.tup xs) → ¬ b = a := fun b xs hb => ne_kind hb ha7 (by intro z; cases z)
    have S := S.trans X1
    have Lk := Lk.keep X1 nka nt3
    have B := B.keep X1 (fun j x hx => (gH j x hx).2) nt3
    have ebl := X1.kp _ _ nba ebl
    have em := X1.kp _ _ nma.symm em
    have es := X1.kp _ _ nsa es
    have ee := X1.kp _ _ e4 ee
    have ha9 := upd_same (H := H8) (a := a) (o := .ins (He.ga K "Foreteller") dx [("kinds", .ref k), ("books", .ref bl), ("mixer", .ref mx), ("ended", .ref en), ("place", .int 0)])
    generalize upd H8 a (.ins (He.ga K "Foreteller") dx [("kinds", .ref k), ("books", .ref bl), ("mixer", .ref mx), ("ended", .ref en), ("place", .int 0)]) = H9 at ha9 Lk S B ebl em es ee
    clear X1 nt3 ha7
    intro pa npa
    have npH : H pa = none := S.dm _ npa
    have p1 : pa ≠ k := fun z => by rw [z, Lk.lst] at npa; cases npa
    have p2 : pa ≠ bl := fun z => by rw [z, ebl] at npa; cases npa
    have p3 : pa ≠ sh := fun z => by rw [z, es] at npa; cases npa
    have p4 : pa ≠ a := fun z => by rw [z, ha9] at npa; cases npa
    have p5 : pa ≠ en := fun z => by rw [z, ee] at npa; cases npa
    have S := S.new (o := .lst []) npa
    have ep : (upd H9 pa (.lst [])) pa = some (.lst []) := upd_same
    have ha9 := lk_new (u := .lst []) ha9 npa
    have ebl := lk_new (u := .lst []) ebl npa
    have em := lk_new (u := .lst []) em npa
    have es := lk_new (u := .lst []) es npa
    have ee := lk_new (u := .lst []) ee npa
    have Lk := Lk.same (same_new (u := .lst []) (Same.refl _) npa)
    have B := B.same (same_new (u := .lst []) (Same.refl _) npa)
    generalize upd H9 pa (.lst []) = H10 at ep ha9 ebl em es ee Lk B S
    clear npa
    walk_at "go"
    have X1 : SameX (· = a) H10 (upd H10 a (.ins (He.ga K "Foreteller") dx (foreF k bl mx en 0 pa))) := (SameX.refl (M := (· = a)) H10).mut rfl
    have nt3 : ∀ b xs, H10 b = some (.tup xs) → ¬ b = a := fun b xs hb => ne_kind hb ha9 (by intro z; cases z)
    have S := S.trans X1
    have Lk := Lk.keep X1 nka nt3
    have B := B.keep X1 (fun j x hx => (gH j x hx).2) nt3
    have ebl := X1.kp _ _ nba ebl
    have em := X1.kp _ _ nma.symm em
    have es := X1.kp _ _ nsa es
    have ee := X1.kp _ _ e4 ee
    have ep := X1.kp _ _ p4 ep
    have ha11 := upd_same (H := H10) (a := a) (o := .ins (He.ga K "Foreteller") dx (foreF k bl mx en 0 pa))
    have nkH : H k = none := nk
    refine q (fun x => x = a ∨ x = k ∨ x = bl ∨ x = mx ∨ x = sh ∨ x = en ∨ x = pa ∨ ∃ j, Fps j x) _ (fun x hx => ?_) S ⟨dx, k, bl, mx, mdx, sh, en, pa, las, bas, Fps,
      ⟨ha11, Lk, ebl, by rw [bln, ll], B, ⟨em, es⟩, ee, ep, fun i x hx => ⟨(gH i x hx).2, gm i x hx⟩, nma, p5.symm, ⟨e1, e2, e3⟩, ⟨p1, p2, p3⟩,
        ⟨.inl rfl, .inr (.inl rfl), .inr (.inr (.inl rfl)), .inr (.inr (.inr (.inl rfl))), .inr (.inr (.inr (.inr (.inl rfl)))), .inr (.inr (.inr (.inr (.inr (.inl rfl))))), .inr (.inr (.inr (.inr (.inr (.inr (.inl rfl))))))⟩, fun j x hx => .inr (.inr (.inr (.inr (.inr (.inr (.inr ⟨j, hx⟩)))))), fun x hx => ?_⟩⟩
    · rcases hx with rfl | rfl | rfl | rfl | rfl | rfl | rfl | ⟨j, hx⟩
      · exact .inl rfl
      · exact .inr nkH
      · exact .inr nblH
      · exact .inr nmH
      · exact .inr nshH
      · exact .inr nenH
      · exact .inr npH
      · exact .inr (gH j x hx).1
    · rcases hx with rfl | rfl | rfl | rfl | rfl | rfl | rfl | ⟨j, hx⟩
      · exact ⟨_, ha11, fun xs z => nomatch z⟩
      · exact ⟨_, Lk.lst, fun xs z => nomatch z⟩
      · exact ⟨_, ebl, fun xs z => nomatch z⟩
      · exact ⟨_, em, fun xs z => nomatch z⟩
      · exact ⟨_, es, fun xs z => nomatch z⟩
      · exact ⟨_, ee, fun xs z => nomatch z⟩
      · exact ⟨_, ep, fun xs z => nomatch z⟩
      · obtain ⟨o, ho, m⟩ := B.dom j x hx
        exact ⟨o, ho, m.t⟩
end
section
variable (K : PySem.W.Frag)
/-- made of right looks -/
theorem fore_new {H : Hp} {l : Addr} {las : List Addr} {ks : List Lk} {a dx : Addr} {Q : Hp → Prop} {E : XK} (L : LooksH H l las ks) (ok : LksOk ks) (na : H a = none) (ndx : H dx = none) (nad : dx ≠ a)
    (q : ∀ Fp H', Same H H' → (∀ x, Fp x → H x = none) → ForAt K H' a Fp ks [] → Q H') : F_Foreteller_init K (.ref a) (.ref l) (upd (upd H dx (.own a)) a (.ins (He.ga K "Foreteller") dx [])) (fun v H2 => v = .non ∧ Q H2) E := by
  have S0 : Same H (upd (upd H dx (.own a)) a (.ins (He.ga K "Foreteller") dx [])) := same_mut (same_mut (Same.refl H) ndx) na
  refine ⟨a, dx, rfl, upd_same, .inr ⟨l, las, ks, rfl, L.same S0, ok, fun Fp H' g s A => ⟨rfl, q Fp H' (SameX.back1 S0 s na) (fun x hx => ?_) A⟩⟩⟩
  rcases g x hx with z | z
  · rw [z]; exact na
  · exact upd_none (upd_none z)
end
/-! texts, decisions, nodes -/
/-- whether x is a list of at most m signs -/
inductive SgT (K : PySem.W.Frag) (H : Hp) (m : Nat) : V → Bool → Prop
  | lst {a : Addr} {xs : List V} (e : H a = some (.lst xs)) (l : xs.length ≤ 1000000) (t : ∀ v ∈ xs, TyW K H v) : SgT K H m (.ref a) (decide (xs.length ≤ m) && xs.all (btw 0 255))
  | other {x : V} {tn : String} (t : TyX K H x (.type tn)) (k : kitB tn "list" = some false) : SgT K H m x false
structure TextOk (m : Nat) (ns : List Int) : Prop where
  len : ns.length ≤ m
  all : ∀ z ∈ ns, 0 ≤ z ∧ z ≤ 255
theorem all_ints : ∀ {xs : List V}, xs.all (btw 0 255) = true → ∃ ns : List Int, xs = ns.map V.int ∧ ∀ z ∈ ns, 0 ≤ z ∧ z ≤ 255
  | [], _ => ⟨[], rfl, fun z h => nomatch h⟩
  | x :: xs, h => by
    rw [List.all_cons, Bool.and_eq_true] at h
    obtain ⟨ns, rfl, hn⟩ := all_ints h.2
    obtain ⟨i, rfl, hi⟩ := btw_int h.1
    refine ⟨i :: ns, rfl, fun z hz => ?_⟩
    rcases List.mem_cons.mp hz with rfl | hz
    · exact hi
    · exact hn z hz
theorem SgT.yes {K : PySem.W.Frag} {H : Hp} {m : Nat} {x : V} (h : SgT K H m x true) : ∃ a ns, x = .ref a ∧ H a = some (.lst (ns.map V.int)) ∧ TextOk m ns := by
  generalize hb : true = b at h
  cases h with
  | @lst a xs e l t =>
    have hb := hb.symm
    rw [Bool.and_eq_true, decide_eq_true_iff] at hb
    obtain ⟨ns, rfl, hn⟩ := all_ints hb.2
    exact ⟨a, ns, rfl, e, ⟨by simpa using hb.1, hn⟩⟩
  | other t k => cases hb
theorem SgT.of {K : PySem.W.Frag} {H : Hp} {m : Nat} {a : Addr} {ns : List Int} (e : H a = some (.lst (ns.map V.int))) (t : TextOk m ns) (hm : m ≤ 1000000) : SgT K H m (.ref a) true := by
  have k := SgT.lst (K := K) (m := m) e (by rw [List.length_map]; exact Nat.le_trans t.len hm) (fun v hv => by
    obtain ⟨z, _, rfl⟩ := List.mem_map.mp hv
    exact .int)
  have c : (ns.map V.int).all (btw 0 255) = true := by
    rw [List.all_map]
    refine List.all_eq_true.mpr fun z hz => ?_
    show btw 0 255 (.int z) = true
    rw [btw, decide_eq_true (t.all z hz).1, decide_eq_true (t.all z hz).2]
    rfl
  rw [c, decide_eq_true (by rw [List.length_map]; exact t.len)] at k
  exact k
def F_are_signs (K : PySem.W.Frag) : V → V → Hp → VK → XK → Prop := fun x y H Q _ => ∃ (m : Nat) (b : Bool), y = .int m ∧ SgT K H m x b ∧ ∀ H', Same H H' → Q (.bl b) H'
abbrev sp_are_signs (K : PySem.W.Frag) : Sp := on2 (F_are_signs K)
def t_are_signs (K : PySem.W.Frag) (E : XK) : TS :=
  tSeq (tIfS (tOr (tNot (tTru K (tCB (rIsi2 K) (tCons (tVar 0) (tCons (tC (.ty "list")) (tNil)))))) (tTest (tOp (iGt) (tCB (rLength K) (tCons (tVar 0) (tNil))) (tVar 1)))) (tRet (tC (.bl false))) (tNext))
  (tRet (tCB (rAll K) (tCons (tLc (iList K (tVar 0)) (gName 2) (tYes) (tFun (sp_is_sign K) [] (fun _ => E0) (tCons (tVar 2) (tNil))) [2]) (tNil))))
theorem pure_are_signs (K : PySem.W.Frag) {x y : V} {H : Hp} {Q : VK} {E : XK} (h : F_are_signs K x y H Q E) : t_are_signs K E ⟨fun _ H' => Q .non H', Q, fun _ _ => False, fun _ _ => False⟩ [some x, some y, none] H := by
  obtain ⟨m, b, rfl, S, q⟩ := h
  unfold t_are_signs
  walk_at "go"
  cases S with
  | @lst a xs e l t =>
    refine g_isi (s := "") (tn := "list") (.base (.lst e)) (b := true) (by decide +kernel) ?_
    walk_at "go"
    refine dif (fun h => ?_) fun h => ?_
    · rw [decide_eq_false (by omega), Bool.false_and] at q
      walk_at "go"
      exact q _ (Same.refl _)
    · rw [decide_eq_true (by omega), Bool.true_and] at q
      walk_at "go"
      refine lc_L (sq_of e) (fun v => .bl (btw 0 255 v)) l (fun v hv D H2 Q2 s2 k => ?_) fun D H2 nD s2 eD => ?_
      · walk_at "go"
        exact ⟨tyw_same s2 (t v hv), k _ (Same.refl _)⟩
      · walk_at "go"
        refine g_all (bs := xs.map (btw 0 255)) (sq_of (by rw [eD, List.map_map]; rfl)) ?_
        have : (xs.map (btw 0 255)).all id = xs.all (btw 0 255) := by rw [List.all_map]; rfl
        rw [this]
        exact q _ s2
  | other t k =>
    refine g_isi (s := "") t k ?_
    walk_at "go"
    exact q _ (Same.refl _)
/-- a checked list of signs: handed on as a new one, or refused by the class C -/
def F_signs (K : PySem.W.Frag) (m : Nat) (C : Str) : V → Hp → VK → XK → Prop := fun x H Q E => ∃ b : Bool, SgT K H m x b ∧ (b = false → ∀ H', Same H H' → E (.ref (He.ga K C)) none H') ∧
  (b = true → ∀ a ns, x = .ref a → H a = some (.lst (ns.map V.int)) → TextOk m ns → ∀ l H', H l = none → Same H H' → H' l = some (.lst (ns.map V.int)) → Q (.ref l) H')
abbrev sp_checked_text (K : PySem.W.Frag) : Sp := on1 (F_signs K 1000 "NoText")
abbrev sp_checked_bytes (K : PySem.W.Frag) : Sp := on1 (F_signs K 12000 "NoBytes")
def t_checked_text (K : PySem.W.Frag) (E : XK) : TS :=
  tSeq (tIfS (tNot (tTru K (tFun (sp_are_signs K) [] (fun _ => E) (tCons (tVar 0) (tCons (tC (.int 1000)) (tNil)))))) (tRz (fun cls d _ H => E cls d H) (He.ga K "NoText")) (tNext))
  (tRet (tCB (rListOf K) (tCons (tVar 0) (tNil))))
theorem pure_checked_text (K : PySem.W.Frag) {x : V} {H : Hp} {Q : VK} {E : XK} (h : F_signs K 1000 "NoText" x H Q E) : t_checked_text K E ⟨fun _ H' => Q .non H', Q, fun _ _ => False, fun _ _ => False⟩ [some x] H := by
  obtain ⟨b, S, r, q⟩ := h
  unfold t_checked_text
  walk_at "go"
  refine ⟨1000, b, rfl, S, fun H1 s1 => ?_⟩
  walk_at "go"
  refine difNB (fun h => ?_) fun h => ?_
  · walk_at "go"
    exact r h _ s1
  · subst h
    obtain ⟨a, ns, rfl, e, t⟩ := S.yes
    have e1 := s1 _ _ e
    walk_at "go"
    intro l nl
    exact q rfl a ns rfl e t l _ (s1.free nl) (same_new s1 nl) upd_same
def t_checked_bytes (K : PySem.W.Frag) (E : XK) : TS :=
  tSeq (tIfS (tNot (tTru K (tFun (sp_are_signs K) [] (fun _ => E) (tCons (tVar 0) (tCons (tC (.int 12000)) (tNil)))))) (tRz (fun cls d _ H => E cls d H) (He.ga K "NoBytes")) (tNext))
  (tRet (tCB (rListOf K) (tCons (tVar 0) (tNil))))
theorem pure_checked_bytes (K : PySem.W.Frag) {x : V} {H : Hp} {Q : VK} {E : XK} (h : F_signs K 12000 "NoBytes" x H Q E) : t_checked_bytes K E ⟨fun _ H' => Q .non H', Q, fun _ _ => False, fun _ _ => False⟩ [some x] H := by
  obtain ⟨b, S, r, q⟩ := h
  unfold t_checked_bytes
  walk_at "go"
  refine ⟨12000, b, rfl, S, fun H1 s1 => ?_⟩
  walk_at "go"
  refine difNB (fun h => ?_) fun h => ?_
  · walk_at "go"
    exact r h _ s1
  · subst h
    obtain ⟨a, ns, rfl, e, t⟩ := S.yes
    have e1 := s1 _ _ e
    walk_at "go"
    intro l nl
    exact q rfl a ns rfl e t l _ (s1.free nl) (same_new s1 nl) upd_same
theorem signs_of' {K : PySem.W.Frag} {m : Nat} {C : Str} {H : Hp} {Q : VK} {E : XK} {a : Addr} {ns : List Int} (e : H a = some (.lst (ns.map V.int))) (t : TextOk m ns) (hm : m ≤ 1000000) (q : ∀ l H', H l = none → Same H H' → H' l = some (.lst (ns.map V.int)) → Q (.ref l) H') : F_signs K m C (.ref a) H Q E := by
  refine ⟨true, SgT.of e t hm, (fun h => nomatch h), fun _ a' ns' ea e' _ => ?_⟩
  cases ea
  have := HO.lst.inj (Option.some.inj (e.symm.trans e'))
  rw [← this]
  exact q
/-! decisions -/
theorem take_snoc' {α : Type} {l : List α} {i : Nat} {x : α} (h : l[i]? = some x) : l.take (i + 1) = l.take i ++ [x] := by
  rw [List.take_add_one, h]
  rfl
def bits8 (s : Int) : List Int := (List.range 8).map fun (i : Nat) => s / 2 ^ (7 - (i : Int)).toNat % 2
theorem bits8_is (s : Int) : bits8 s = [s / 128 % 2, s / 64 % 2, s / 32 % 2, s / 16 % 2, s / 8 % 2, s / 4 % 2, s / 2 % 2, s / 1 % 2] := rfl
def F_bits_of (K : PySem.W.Frag) : V → Hp → VK → XK → Prop := fun x H Q _ => ∃ s : Int, x = .int s ∧ ∀ l H', H l = none → Same H H' → H' l = some (.lst ((bits8 s).map V.int)) → Q (.ref l) H'
abbrev sp_bits_of (K : PySem.W.Frag) : Sp := on1 (F_bits_of K)
def t_bits_of (K : PySem.W.Frag) (E : XK) : TS :=
  tRet (tLc (iRng3 (tCons (tC (.int 7)) (tCons (tUn rNeg (tC (.int 1))) (tCons (tUn rNeg (tC (.int 1))) (tNil))))) (gName 1) (tYes) (tOp (rMask) (tOp (rRsh) (tVar 0) (tVar 1)) (tC (.int 1))) [1])
theorem pure_bits_of (K : PySem.W.Frag) {x : V} {H : Hp} {Q : VK} {E : XK} (h : F_bits_of K x H Q E) : t_bits_of K E ⟨fun _ H' => Q .non H', Q, fun _ _ => False, fun _ _ => False⟩ [some x, none] H := by
  obtain ⟨s, rfl, q⟩ := h
  unfold t_bits_of
  walk_at "go"
  refine lc_R3 (k := 8) (RgC.neg (i := 7) (j := -1) (by decide) (by decide) (by decide) (by decide)) (fun i => .int (s / 2 ^ (7 - (i : Int)).toNat % 2)) (by decide) (fun i hi D H2 Q2 s2 k => ?_) fun D H2 nD s2 eD => ?_
  · walk_at "go"
    refine g_rsh (by omega) ?_
    walk_at "go"
    have e : (7 : Int) + (i : Int) * -1 = 7 - (i : Int) := by omega
    rw [e]
    exact k _ (Same.refl _)
  · refine q D H2 nD s2 ?_
    rw [eD]
    unfold bits8
    rw [List.map_map]
    rfl
def nine (s : Int) : List Int := 1 :: bits8 s
def decOf (ns : List Int) : List Int := ns.flatMap nine ++ [0]
theorem nine_len (s : Int) : (nine s).length = 9 := rfl
theorem flat_len {f : Int → List Int} (hf : ∀ s, (f s).length = 9) : ∀ ns : List Int, (ns.flatMap f).length = 9 * ns.length
  | [] => rfl
  | s :: ns => by rw [List.flatMap_cons, List.length_append, hf, flat_len hf ns, List.length_cons]; omega
theorem flat_snoc {f : Int → List Int} (ns : List Int) (s : Int) : (ns ++ [s]).flatMap f = ns.flatMap f ++ f s := by
  rw [List.flatMap_append, List.flatMap_cons, List.flatMap_nil, List.append_nil]
def F_decisions_of (K : PySem.W.Frag) (f : List Int → List Int) : V → Hp → VK → XK → Prop := fun x H Q E => ∃ b : Bool, SgT K H 1000 x b ∧ (b = false → ∀ H', Same H H' → E (.ref (He.ga K "NoText")) none H') ∧
  (b = true → ∀ a ns, x = .ref a → H a = some (.lst (ns.map V.int)) → TextOk 1000 ns → ∀ l H', H l = none → Same H H' → H' l = some (.lst ((f ns).map V.int)) → Q (.ref l) H')
abbrev sp_decisions_of (K : PySem.W.Frag) : Sp := on1 (F_decisions_of K decOf)
def t_decisions_of (K : PySem.W.Frag) (E : XK) : TS :=
  tSeq (tAsg (tLst (tNil)) (gName 1))
  (tSeq (tFor (iList K (tFun (sp_checked_text K) [] (fun _ => E) (tCons (tVar 0) (tNil)))) (gName 2) (tSeq (tDrop (tBM K "list" (rAppend) (tVar 1) (tCons (tC (.int 1)) (tNil))))
  (tDrop (tBM K "list" (rExtend) (tVar 1) (tCons (tFun (sp_bits_of K) [] (fun _ => E) (tCons (tVar 2) (tNil))) (tNil))))))
  (tSeq (tDrop (tBM K "list" (rAppend) (tVar 1) (tCons (tC (.int 0)) (tNil))))
  (tRet (tVar 1))))
theorem pure_decisions_of (K : PySem.W.Frag) {x : V} {H : Hp} {Q : VK} {E : XK} (h : F_decisions_of K decOf x H Q E) : t_decisions_of K E ⟨fun _ H' => Q .non H', Q, fun _ _ => False, fun _ _ => False⟩ [some x, none, none] H := by
  obtain ⟨b, S, r, q⟩ := h
  unfold t_decisions_of
  walk_at "go"
  intro l nl
  walk_at "go"
  have S' : SgT K (upd H l (.lst [])) 1000 x b := by
    have s := same_new (u := .lst []) (Same.refl H) nl
    cases S with
    | lst e l t => exact .lst (s _ _ e) l fun v hv => tyw_same s (t v hv)
    | other t k => exact .other (tyx_same s t) k
  refine ⟨b, S', fun h H' s => r h H' (Same.trans (same_new (Same.refl H) nl) s), fun hb a ns hx ha t c H1 nc s1 ec => ?_⟩
  subst hb hx
  have ha' : H a = some (.lst (ns.map V.int)) := by
    obtain ⟨a', ns', ea, e', _⟩ := S.yes
    cases ea
    have := lk_new (u := .lst []) e' nl
    have := HO.lst.inj (Option.some.inj (this.symm.trans ha))
    rw [← this]
    exact e'
  have q := q rfl a ns rfl ha' t
  have el := s1 _ _ (upd_same (H := H) (a := l) (o := .lst []))
  have S1 : Same H H1 := Same.trans (same_new (Same.refl H) nl) s1
  have tl := t.len
  walk_at "go"
  refine for_LI (sq_of ec) (fun i σ H2 => ∃ u, σ = [some (.ref a), some (.ref l), u] ∧ SameX (· = l) H1 H2 ∧ H2 l = some (.lst (((ns.take i).flatMap nine).map V.int))) ?_ ?_ ?_ ?_
  · exact ⟨_, rfl, SameX.refl _, el⟩
  · rintro i σ H2 ⟨u, rfl, s2, e2⟩
    have ncl : c ≠ l := fun e => by rw [e, upd_same] at nc; cases nc
    exact sq_of (s2.kp _ _ ncl ec)
  · rintro i z σ H2 hz ⟨u, rfl, s2, e2⟩
    have hi := (List.getElem?_eq_some_iff.mp hz).1
    have fl : ((ns.take i).flatMap nine).length ≤ 9000 := by rw [flat_len nine_len, List.length_take]; omega
    walk_at "go"
    refine ⟨z, rfl, fun d H3 nd s3 ed => ?_⟩
    have e3 := s3 _ _ (upd_same (H := H2) (a := l) (o := .lst (((ns.take i).flatMap nine).map V.int ++ [.int 1])))
    walk_at "go"
    refine g_extend e3 ed (Nat.le_trans (m := 1000000) (by simp only [List.length_append, List.length_map, List.length_cons, List.length_nil, bits8, List.length_range]; omega) (by decide)) ?_
    refine ⟨_, rfl, (((s2.mut rfl).trans (SameX.of s3)).mut rfl), ?_⟩
    rw [upd_same, take_snoc' hz, flat_snoc, List.map_append, List.append_assoc]
    rfl
  · rintro σ H2 ⟨u, rfl, s2, e2⟩
    rw [List.take_length] at e2
    have fl : (ns.flatMap nine).length ≤ 9000 := by rw [flat_len nine_len]; omega
    walk_at "go"
    refine q l _ nl (SameX.back1 S1 (s2.mut rfl) nl) ?_
    rw [upd_same]
    unfold decOf
    rw [List.map_append]
    rfl
def ndB (n b : Int) : Int := if n = 0 then b else if n > 127 then 0 else 2 * n + b
def F_node_behind (K : PySem.W.Frag) : V → V → Hp → VK → XK → Prop := fun x y H Q _ => ∃ n b : Int, x = .int n ∧ y = .int b ∧ Q (.int (ndB n b)) H
abbrev sp_node_behind (K : PySem.W.Frag) : Sp := on2 (F_node_behind K)
/-- the nodes of decisions, from a node on; the node behind them -/
def ndsF : Int → List Int → List Int
  | _, [] => []
  | n, b :: bs => n :: ndsF (ndB n b) bs
def ndE : Int → List Int → Int
  | n, [] => n
  | n, b :: bs => ndE (ndB n b) bs
theorem nds_snoc : ∀ (bs : List Int) (n b : Int), ndsF n (bs ++ [b]) = ndsF n bs ++ [ndE n bs] ∧ ndE n (bs ++ [b]) = ndB (ndE n bs) b
  | [], _, _ => ⟨rfl, rfl⟩
  | c :: bs, n, b => by
    obtain ⟨h1, h2⟩ := nds_snoc bs (ndB n c) b
    exact ⟨by rw [List.cons_append, ndsF, h1]; rfl, by rw [List.cons_append, ndE, h2]; rfl⟩
theorem nds_len : ∀ (bs : List Int) (n : Int), (ndsF n bs).length = bs.length
  | [], _ => rfl
  | c :: bs, n => by rw [ndsF, List.length_cons, nds_len bs, List.length_cons]
def nodOf (ns : List Int) : List Int := ndsF 0 (decOf ns)
theorem dec_len (ns : List Int) : (decOf ns).length = 9 * ns.length + 1 := by
  unfold decOf
  rw [List.length_append, flat_len nine_len]
  rfl
abbrev sp_nodes_of (K : PySem.W.Frag) : Sp := on1 (F_decisions_of K nodOf)/-! signs of decisions -/
theorem rg9 {n : Nat} (h : n ≤ 1001) : RgC 0 ((9 * n + 1 : Nat) - 1 : Int) 9 n := by
  have e : Builtin.Range.rangeSize 0 ((9 * n + 1 : Nat) - 1 : Int) 9 = (n : Int) := by
    unfold Builtin.Range.rangeSize
    rw [if_pos (by decide)]
    split <;> omega
  refine ⟨by decide, by decide, ?_, e⟩
  unfold Builtin.Range.small
  rw [e]
  simp only [Builtin.Range.rangeFitsLong, Bool.and_eq_true, Bool.or_eq_true, decide_eq_true_eq, beq_iff_eq, show ((9 : Int) > 0) by decide, if_true]
  omega
theorem flat_drop {f : Int → List Int} (hf : ∀ s, (f s).length = 9) : ∀ (ns : List Int) (i : Nat), (ns.flatMap f).drop (9 * i) = (ns.drop i).flatMap f
  | ns, 0 => by simp
  | [], i + 1 => by simp
  | s :: ns, i + 1 => by
    rw [List.flatMap_cons, List.drop_succ_cons, ← flat_drop hf ns i]
    have : 9 * (i + 1) = (f s).length + 9 * i := by rw [hf]; omega
    rw [this, List.drop_append]
    rw [List.drop_of_length_le (by omega), List.nil_append]
    congr 1
    omega
theorem dec_drop {ns : List Int} {i : Nat} {s : Int} (h : ns[i]? = some s) : (decOf ns).drop (9 * i) = 1 :: (bits8 s ++ ((ns.drop (i + 1)).flatMap nine ++ [0])) := by
  have hi := (List.getElem?_eq_some_iff.mp h).1
  unfold decOf
  rw [List.drop_append_of_le_length (by rw [flat_len nine_len]; omega), flat_drop nine_len]
  have : ns.drop i = s :: ns.drop (i + 1) := by
    rw [List.drop_eq_getElem_cons hi]
    congr 1
    exact (List.getElem?_eq_some_iff.mp h).2
  rw [this, List.flatMap_cons]
  unfold nine
  simp only [List.cons_append, List.append_assoc]
theorem dec_at {ns : List Int} {i : Nat} {s : Int} (h : ns[i]? = some s) : (decOf ns)[9 * i]? = some 1 ∧ ((decOf ns).drop (9 * i + 1)).take 8 = bits8 s := by
  have d := dec_drop h
  constructor
  · have := congrArg (fun l => l[0]?) d
    simpa [List.getElem?_drop] using this
  · rw [← List.drop_drop, d]
    rw [List.drop_one, List.tail_cons, List.take_append_of_le_length (by simp [bits8]), List.take_of_length_le (by simp [bits8])]
def valB (bs : List Int) : Int := bs.foldl (fun n b => 2 * n + b) 0
theorem valB_bits8 {s : Int} (h : 0 ≤ s ∧ s ≤ 255) : valB (bits8 s) = s := by
  rw [bits8_is]
  unfold valB
  simp only [List.foldl_cons, List.foldl_nil]
  omega
def F_sign_of (K : PySem.W.Frag) : V → Hp → VK → XK → Prop := fun x H Q _ => ∃ (a : Addr) (bs : List Int), x = .ref a ∧ SqL K H a (bs.map V.int) ∧ Q (.int (valB bs)) H
abbrev sp_sign_of (K : PySem.W.Frag) : Sp := on1 (F_sign_of K)
def F_signs_of (K : PySem.W.Frag) : V → Hp → VK → XK → Prop := fun x H Q _ => ∃ (a : Addr) (ns : List Int), x = .ref a ∧ H a = some (.lst ((decOf ns).map V.int)) ∧ TextOk 1000 ns ∧ ∀ l H', H l = none → Same H H' → H' l = some (.lst (ns.map V.int)) → Q (.ref l) H'
abbrev sp_signs_of (K : PySem.W.Frag) : Sp := on1 (F_signs_of K)
theorem dec_bits {ns : List Int} : ∀ z ∈ decOf ns, 0 ≤ z ∧ z ≤ 1 := by
  intro z hz
  unfold decOf at hz
  rcases List.mem_append.mp hz with hz | hz
  · obtain ⟨s, _, hz⟩ := List.mem_flatMap.mp hz
    unfold nine at hz
    rcases List.mem_cons.mp hz with rfl | hz
    · omega
    · unfold bits8 at hz
      obtain ⟨i, _, rfl⟩ := List.mem_map.mp hz
      omega
  · have := List.mem_singleton.mp hz
    omega
theorem at_last (xs : List V) (v : V) : atI (xs ++ [v]) (-1) = some v := by
  have e : ixN (xs ++ [v]).length (-1) = some xs.length := by
    unfold ixN
    rw [List.length_append, List.length_singleton, if_neg (by decide), if_pos (by omega)]
    congr 1
    omega
  unfold atI
  rw [e]
  show (xs ++ [v])[xs.length]? = some v
  simp
theorem dec_last {ns : List Int} : atI ((decOf ns).map V.int) (-1) = some (.int 0) := by
  unfold decOf
  rw [List.map_append]
  exact at_last _ _/-! texts learned, foretold -/
theorem dec_of {K : PySem.W.Frag} {H : Hp} {Q : VK} {E : XK} {f : List Int → List Int} {a : Addr} {ns : List Int} (e : H a = some (.lst (ns.map V.int))) (t : TextOk 1000 ns) (q : ∀ l H', H l = none → Same H H' → H' l = some (.lst ((f ns).map V.int)) → Q (.ref l) H') : F_decisions_of K f (.ref a) H Q E := by
  refine ⟨true, SgT.of e t (by decide), (fun h => nomatch h), fun _ a' ns' ea e' _ => ?_⟩
  cases ea
  rw [e] at e'
  have : ns = ns' := (List.map_inj_right (f := V.int) fun x y h => V.int.inj h).mp (HO.lst.inj (Option.some.inj e'))
  rw [← this]
  exact q
structure TextsH (H : Hp) (l : Addr) (tas : List Addr) (ts : List (List Int)) : Prop where
  lst : H l = some (.lst (tas.map V.ref))
  len : tas.length = ts.length
  at_ : ∀ (i : Nat) a t, tas[i]? = some a → ts[i]? = some t → H a = some (.lst (t.map V.int))
theorem TextsH.same {H H1 : Hp} {l : Addr} {tas : List Addr} {ts : List (List Int)} (h : TextsH H l tas ts) (s : Same H H1) : TextsH H1 l tas ts := ⟨s _ _ h.lst, h.len, fun i a t ha ht => s _ _ (h.at_ i a t ha ht)⟩
structure TsOk (ts : List (List Int)) : Prop where
  len : ts.length ≤ 1000
  all : ∀ t ∈ ts, TextOk 1000 t
def LearnT (H : Hp) (x : V) (ts : List (List Int)) : Prop := (x = .non ∧ ts = []) ∨ ∃ l tas, x = .ref l ∧ TextsH H l tas ts
theorem LearnT.same {H H1 : Hp} {x : V} {ts : List (List Int)} (h : LearnT H x ts) (s : Same H H1) : LearnT H1 x ts := by
  rcases h with h | ⟨l, tas, e, h⟩
  · exact .inl h
  · exact .inr ⟨l, tas, e, h.same s⟩
def dB (ts : List (List Int)) : List Int := ts.flatMap decOf
theorem dB_snoc (ts : List (List Int)) (t : List Int) : dB (ts ++ [t]) = dB ts ++ decOf t := by unfold dB; rw [List.flatMap_append, List.flatMap_cons, List.flatMap_nil, List.append_nil]
theorem dB_bits (ts : List (List Int)) : Bits (dB ts) := fun z hz => by
  obtain ⟨t, _, hz⟩ := List.mem_flatMap.mp hz
  exact dec_bits z hz
theorem Bits.app {a b : List Int} (h : Bits a) (k : Bits b) : Bits (a ++ b) := fun z hz => by
  rcases List.mem_append.mp hz with hz | hz
  · exact h z hz
  · exact k z hz
theorem Bits.take {a : List Int} (h : Bits a) (i : Nat) : Bits (a.take i) := fun z hz => h z (List.mem_of_mem_take hz)
theorem dB_take (ts : List (List Int)) (i : Nat) : (dB (ts.take i)).length ≤ (dB ts).length := by
  have e : dB ts = dB (ts.take i) ++ dB (ts.drop i) := by unfold dB; rw [← List.flatMap_append, List.take_append_drop]
  rw [e, List.length_append]
  omega
theorem dB_step {ts : List (List Int)} {i : Nat} {t : List Int} (h : ts[i]? = some t) : dB (ts.take (i + 1)) = dB (ts.take i) ++ decOf t := by rw [take_snoc' h, dB_snoc]
theorem see_of {K : PySem.W.Frag} {H : Hp} {Q : VK} {E : XK} {a : Addr} {Fp : Addr → Prop} {ks : List Lk} {bits : List Int} {b : Int} (A : ForAt K H a Fp ks bits) (ok : LksOk ks) (hb : Bits bits) (hn : bits.length ≤ 800000) (h : 0 ≤ b ∧ b ≤ 1)
    (q : ∀ Fp' H', SameX Fp H H' → (∀ x, Fp' x → Fp x ∨ H x = none) → ForAt K H' a Fp' ks (bits ++ [b]) → Q .non H') : F_Foreteller_see K (.ref a) (.int b) H Q E :=
  ⟨a, Fp, ks, bits, rfl, A, ok, hb, hn, .int, (fun z => by rw [btw, decide_eq_true h.1, decide_eq_true h.2] at z; cases z), fun b' e _ _ => by cases e; exact q⟩
section
variable (K : PySem.W.Frag)
/-- no list of texts -/
inductive LnBad (K : PySem.W.Frag) (H : Hp) : V → Prop
  | other {x : V} {tn : String} (t : TyX K H x (.type tn)) (k : kitB tn "list" = some false) (n : x ≠ .non) : LnBad K H x
  | lst {a : Addr} {xs : List V} {i : Nat} {v : V} (e : H a = some (.lst xs)) (l : xs.length ≤ 1000) (good : ∀ j w, j < i → xs[j]? = some w → SgT K H 1000 w true) (hv : xs[i]? = some v) (bad : SgT K H 1000 v false) : LnBad K H (.ref a)
theorem SgT.same {K : PySem.W.Frag} {m : Nat} {H H1 : Hp} {x : V} {b : Bool} (h : SgT K H m x b) (s : Same H H1) : SgT K H1 m x b := by
  cases h with
  | lst e l t => exact .lst (s _ _ e) l fun v hv => tyw_same s (t v hv)
  | other t k => exact .other (tyx_same s t) k
theorem LnBad.same {K : PySem.W.Frag} {H H1 : Hp} {x : V} (h : LnBad K H x) (s : Same H H1) : LnBad K H1 x := by
  cases h with
  | other t k n => exact .other (tyx_same s t) k n
  | lst e l g hv b => exact .lst (s _ _ e) l (fun j w hj hw => (g j w hj hw).same s) hv (b.same s)
def F_checked_learned (K : PySem.W.Frag) : V → Hp → VK → XK → Prop := fun x H Q E => (∃ ts, LearnT H x ts ∧ TsOk ts ∧ ∀ l tas H', H l = none → (∀ a ∈ tas, H a = none ∧ a ≠ l) → tas.Nodup → Same H H' → TextsH H' l tas ts → Q (.ref l) H') ∨ (LnBad K H x ∧ ∀ H', Same H H' → E (.ref (He.ga K "NoText")) none H')
theorem learned_of {K : PySem.W.Frag} {H : Hp} {Q : VK} {E : XK} {x : V} {ts : List (List Int)} (T : LearnT H x ts) (ok : TsOk ts) (q : ∀ l tas H', H l = none → Same H H' → TextsH H' l tas ts → Q (.ref l) H') : F_checked_learned K x H Q E :=
  .inl ⟨ts, T, ok, fun l tas H' nl _ _ s T' => q l tas H' nl s T'⟩
abbrev sp_checked_learned (K : PySem.W.Frag) : Sp := on1 (F_checked_learned K)
def F_learner (K : PySem.W.Frag) : V → V → Hp → VK → XK → Prop := fun x y H Q _ => ∃ (l t : Addr) (las tas : List Addr) (ks : List Lk) (ts : List (List Int)), x = .ref l ∧ y = .ref t ∧ LooksH H l las ks ∧ LksOk ks ∧ TextsH H t tas ts ∧ TsOk ts ∧ (dB ts).length ≤ 700000 ∧
  ∀ a Fp H', Same H H' → (∀ x, Fp x → H x = none) → ForAt K H' a Fp ks (dB ts) → Q (.ref a) H'
abbrev sp_learner (K : PySem.W.Frag) : Sp := on2 (F_learner K)
end
/-! ### foretold -/
def toldF (ks : List Lk) (b0 bs : List Int) : List (Int × Int) := bs.mapIdx fun i b => (chanceF ks (stF ks (b0 ++ bs.take i)), b)
def rowsF (ks : List Lk) (b0 bs : List Int) : List (List Int) := bs.mapIdx fun i _ => chancesF ks (stF ks (b0 ++ bs.take i))
theorem toldF_at {ks : List Lk} {b0 bs : List Int} {i : Nat} {b : Int} (h : bs[i]? = some b) : (toldF ks b0 bs)[i]? = some (chanceF ks (stF ks (b0 ++ bs.take i)), b) := by
  unfold toldF
  rw [List.getElem?_mapIdx, h]
  rfl
theorem toldF_len {ks : List Lk} {b0 bs : List Int} : (toldF ks b0 bs).length = bs.length := by unfold toldF; rw [List.length_mapIdx]
theorem rowsF_at {ks : List Lk} {b0 bs : List Int} {i : Nat} {b : Int} (h : bs[i]? = some b) : (rowsF ks b0 bs)[i]? = some (chancesF ks (stF ks (b0 ++ bs.take i))) := by
  unfold rowsF
  rw [List.getElem?_mapIdx, h]
  rfl
theorem rowsF_len {ks : List Lk} {b0 bs : List Int} : (rowsF ks b0 bs).length = bs.length := by unfold rowsF; rw [List.length_mapIdx]
structure ToldH (H : Hp) (r : Addr) (ps : List Addr) (tl : List (Int × Int)) : Prop where
  lst : H r = some (.lst (ps.map V.ref))
  len : ps.length = tl.length
  at_ : ∀ (i : Nat) p x, ps[i]? = some p → tl[i]? = some x → H p = some (.tup [.int x.1, .int x.2])
theorem ToldH.same {H H1 : Hp} {r : Addr} {ps : List Addr} {tl : List (Int × Int)} (h : ToldH H r ps tl) (s : Same H H1) : ToldH H1 r ps tl := ⟨s _ _ h.lst, h.len, fun i p x hp hx => s _ _ (h.at_ i p x hp hx)⟩
section
variable (K : PySem.W.Frag) [HasTup K "KINDS" [.str "even", .str "quick", .str "run"]]
def Asks (K : PySem.W.Frag) (x y z : V) (H : Hp) (ks : List Lk) (ns : List Int) (ts : List (List Int)) : Prop := ∃ (l ta : Addr) (las : List Addr), x = .ref l ∧ LooksH H l las ks ∧ LksOk ks ∧ y = .ref ta ∧ H ta = some (.lst (ns.map V.int)) ∧ TextOk 1000 ns ∧ LearnT H z ts ∧ TsOk ts ∧ (dB ts).length ≤ 600000
/-- looks, a text, learned texts, one of which is none: refused by the class C -/
inductive Bad3 (K : PySem.W.Frag) (x y z : V) (H : Hp) : Str → Prop
  | looks (h : LsT K H x false) : Bad3 K x y z H "NoLooks"
  | text {l : Addr} {las : List Addr} {ks : List Lk} (e : x = .ref l) (L : LooksH H l las ks) (ok : LksOk ks) (h : SgT K H 1000 y false) : Bad3 K x y z H "NoText"
  | learned {l ta : Addr} {las : List Addr} {ks : List Lk} {ns : List Int} (e : x = .ref l) (L : LooksH H l las ks) (ok : LksOk ks) (e2 : y = .ref ta) (ht : H ta = some (.lst (ns.map V.int))) (t : TextOk 1000 ns) (h : LnBad K H z) : Bad3 K x y z H "NoText"
def Bads (K : PySem.W.Frag) (x y z : V) (H : Hp) (E : XK) : Prop := ∃ C, Bad3 K x y z H C ∧ ∀ H', Same H H' → E (.ref (He.ga K C)) none H'
def F_foretold (K : PySem.W.Frag) : V → V → V → Hp → VK → XK → Prop := fun x y z H Q E => (∃ ks ns ts, Asks K x y z H ks ns ts ∧ ∀ r ps H', H r = none → Same H H' → ToldH H' r ps (toldF ks (dB ts) (decOf ns)) → Q (.ref r) H') ∨ Bads K x y z H E
abbrev sp_foretold (K : PySem.W.Frag) : Sp := on3 (F_foretold K)
end
/-! a span: lowest number, width, how many bytes -/
abbrev Ends3 := Int × Int × Int
def spanF (e : Ends3) : List (Str × V) := [("low", .int e.1), ("width", .int e.2.1), ("size", .int e.2.2)]
def endV (e : Ends3) : List V := [.int e.1, .int e.2.1, .int e.2.2]
def nrm : Nat → Int → Int → Int → Ends3
  | 0, l, w, s => (l, w, s)
  | m + 1, l, w, s => if w < 4294967296 then nrm m (l * 256) (w * 256) (s + 1) else (l, w, s)
def cutOf (e : Ends3) (c : Int) : Int := e.2.1 * c / 16777216
def nar (e : Ends3) (c b : Int) : Ends3 := if b = 1 then nrm 5 e.1 (cutOf e c) e.2.2 else nrm 5 (e.1 + cutOf e c) (e.2.1 - cutOf e c) e.2.2
/-- a span behind at most n narrowings -/
structure WSp (n : Nat) (e : Ends3) : Prop where
  lo : 0 ≤ e.1
  wi : 4294967296 ≤ e.2.1
  wi2 : e.2.1 < 2 ^ 40 + 1
  si : 5 ≤ e.2.2
  si2 : e.2.2 ≤ 5 + 5 * (n : Int)
  fit : e.1 + e.2.1 ≤ 256 ^ e.2.2.toNat
/-- amid the putting right -/
structure WMid (m n : Nat) (l w s : Int) : Prop where
  lo : 0 ≤ l
  wi : 1 ≤ w
  wi2 : w < 2 ^ 40 + 1
  big : 4294967296 ≤ w * 256 ^ m
  si : 5 ≤ s
  si2 : s + (m : Int) ≤ 10 + 5 * (n : Int)
  fit : l + w ≤ 256 ^ s.toNat
theorem WMid.next {m n : Nat} {l w s : Int} (h : WMid (m + 1) n l w s) (k : w < 4294967296) : WMid m n (l * 256) (w * 256) (s + 1) := by
  have h1 := h.lo
  have h2 := h.wi
  have h3 := h.wi2
  have h5 := h.si
  have h6 := h.si2
  refine ⟨by omega, by omega, by omega, ?_, by omega, by omega, ?_⟩
  · have := h.big
    rw [Int.pow_succ] at this
    calc (4294967296 : Int) ≤ w * (256 ^ m * 256) := this
      _ = w * 256 * 256 ^ m := by rw [Int.mul_comm (256 ^ m) 256, Int.mul_assoc]
  · have e : (s + 1).toNat = s.toNat + 1 := by omega
    rw [e, Int.pow_succ]
    have := h.fit
    omega
theorem WMid.zero {n : Nat} {l w s : Int} (h : WMid 0 n l w s) : ¬ w < 4294967296 := by
  have := h.big
  simp at this
  omega
theorem WMid.done {m n : Nat} {l w s : Int} (h : WMid m n l w s) (k : ¬ w < 4294967296) : WSp (n + 1) (l, w, s) := by
  have h1 := h.lo
  have h3 := h.wi2
  have h5 := h.si
  have h6 := h.si2
  exact ⟨h1, by show (4294967296 : Int) ≤ w; omega, h3, h5, by show s ≤ _; omega, h.fit⟩
theorem nrm_ok : ∀ (m : Nat) {n : Nat} {l w s : Int}, WMid m n l w s → WSp (n + 1) (nrm m l w s)
  | 0, n, l, w, s, h => h.done h.zero
  | m + 1, n, l, w, s, h => by
    unfold nrm
    by_cases k : w < 4294967296
    · rw [if_pos k]
      exact nrm_ok m (h.next k)
    · rw [if_neg k]
      exact h.done k
/-- putting right multiplies -/
theorem nrm_is : ∀ (m : Nat) (l w s : Int), ∃ j : Nat, j ≤ m ∧ nrm m l w s = (l * 256 ^ j, w * 256 ^ j, s + (j : Int))
  | 0, l, w, s => ⟨0, by omega, by simp [nrm]⟩
  | m + 1, l, w, s => by
    unfold nrm
    by_cases h : w < 4294967296
    · rw [if_pos h]
      obtain ⟨j, hj, e⟩ := nrm_is m (l * 256) (w * 256) (s + 1)
      refine ⟨j + 1, by omega, ?_⟩
      rw [e, Int.pow_succ, Int.mul_assoc, Int.mul_assoc, Int.mul_comm 256 (256 ^ j)]
      refine Prod.ext rfl (Prod.ext rfl ?_)
      show s + 1 + (j : Int) = s + ((j + 1 : Nat) : Int)
      omega
    · rw [if_neg h]
      exact ⟨0, by omega, by simp⟩
theorem cut_ok {w c : Int} (h : 4294967296 ≤ w) (h2 : w < 2 ^ 40 + 1) (c1 : 32768 ≤ c) (c2 : c ≤ 16744448) : 8388608 ≤ w * c / 16777216 ∧ 8388608 ≤ w - w * c / 16777216 := by
  have a : 4294967296 * 32768 ≤ w * c := Int.le_trans (Int.mul_le_mul_of_nonneg_right h (by omega)) (Int.mul_le_mul_of_nonneg_left c1 (by omega))
  have b : w * c ≤ w * 16744448 := Int.mul_le_mul_of_nonneg_left c2 (by omega)
  omega
theorem mid1 {n : Nat} {e : Ends3} {c : Int} (h : WSp n e) (c1 : 32768 ≤ c) (c2 : c ≤ 16744448) : WMid 5 n e.1 (cutOf e c) e.2.2 := by
  obtain ⟨a, b⟩ := cut_ok h.wi h.wi2 c1 c2
  have h1 := h.lo
  have h3 := h.wi2
  have h5 := h.si
  have h6 := h.si2
  have h7 := h.fit
  unfold cutOf
  exact ⟨h1, by omega, by omega, by omega, h5, by omega, by omega⟩
theorem mid0 {n : Nat} {e : Ends3} {c : Int} (h : WSp n e) (c1 : 32768 ≤ c) (c2 : c ≤ 16744448) : WMid 5 n (e.1 + cutOf e c) (e.2.1 - cutOf e c) e.2.2 := by
  obtain ⟨a, b⟩ := cut_ok h.wi h.wi2 c1 c2
  have h1 := h.lo
  have h3 := h.wi2
  have h5 := h.si
  have h6 := h.si2
  have h7 := h.fit
  unfold cutOf
  exact ⟨by omega, by omega, by omega, by omega, h5, by omega, by omega⟩
theorem nar_ok {n : Nat} {e : Ends3} {c b : Int} (h : WSp n e) (c1 : 32768 ≤ c) (c2 : c ≤ 16744448) : WSp (n + 1) (nar e c b) := by
  unfold nar
  split
  · exact nrm_ok 5 (mid1 h c1 c2)
  · exact nrm_ok 5 (mid0 h c1 c2)
theorem bits_256 {l : Int} {k : Nat} (h0 : 0 ≤ l) (h : l < 256 ^ k) : Builtin.Int.intBits l ≤ 8 * k := by
  have e : (256 : Int) ^ k = ((2 ^ (8 * k) : Nat) : Int) := by
    rw [Nat.pow_mul]
    simp
  rw [e] at h
  have h2 : l.natAbs < 2 ^ (8 * k) := by omega
  have b : Builtin.Int.intBits l ≤ 8 * k := by
    unfold Builtin.Int.intBits
    split
    · exact Nat.zero_le _
    · rename_i z
      have z' : l.natAbs ≠ 0 := by
        intro e
        have e0 : l = 0 := by omega
        exact z (by simp [e0])
      have := (Nat.log2_lt z').mpr h2
      omega
  exact b
theorem shl_256 {l w s : Int} {m n : Nat} (h : WMid m n l w s) (hn : n ≤ 100000) : CShl l 8 := by
  have h1 := h.fit
  have h2 := h.wi
  have h3 := h.si2
  have h4 := h.si
  have := bits_256 (k := s.toNat) h.lo (by omega)
  refine ⟨by decide, ?_⟩
  have e : (2 : Int) ^ 27 = 134217728 := by decide
  rw [e]
  omega
theorem shl_w {l w s : Int} {m n : Nat} (h : WMid m n l w s) : CShl w 8 := by
  have h2 := h.wi
  have h3 := h.wi2
  have := bits_256 (l := w) (k := 6) (by omega) (by omega)
  refine ⟨by decide, ?_⟩
  have e : (2 : Int) ^ 27 = 134217728 := by decide
  rw [e]
  omega
section
variable (K : PySem.W.Frag) [HasCls K "Span"] [HasNo K "Span" "low"] [HasNo K "Span" "width"] [HasNo K "Span" "size"]
def F_Span_init (K : PySem.W.Frag) : V → Hp → VK → XK → Prop := fun x H Q _ => ∃ a dx, x = .ref a ∧ H a = some (.ins (He.ga K "Span") dx []) ∧ Q .non (upd H a (.ins (He.ga K "Span") dx (spanF (0, 1099511627776, 5))))
abbrev sp_Span_init (K : PySem.W.Frag) : Sp := on1 (F_Span_init K)
def t_Span_init (K : PySem.W.Frag) (E : XK) : TS :=
  tSeq (sFld K (tVar 0) (tC (.int 0)) "low")
  (tSeq (sFld K (tVar 0) (tC (.int 1099511627776)) "width")
  (sFld K (tVar 0) (tC (.int 5)) "size"))
theorem pure_Span_init {x : V} {H : Hp} {Q : VK} {E : XK} (h : F_Span_init K x H Q E) : t_Span_init K E ⟨fun _ H' => Q .non H', Q, fun _ _ => False, fun _ _ => False⟩ [some x] H := by
  obtain ⟨a, dx, rfl, ha, q⟩ := h
  unfold t_Span_init
  walk_at "go"
  exact q
def F_Span_ends (K : PySem.W.Frag) : V → Hp → VK → XK → Prop := fun x H Q _ => ∃ a dx e, x = .ref a ∧ H a = some (.ins (He.ga K "Span") dx (spanF e)) ∧ ∀ p, H p = none → Q (.ref p) (upd H p (.tup (endV e)))
abbrev sp_Span_ends (K : PySem.W.Frag) : Sp := on1 (F_Span_ends K)
def t_Span_ends (K : PySem.W.Frag) (E : XK) : TS :=
  tRet (tTup (tCons (tFld K (tVar 0) "low") (tCons (tFld K (tVar 0) "width") (tCons (tFld K (tVar 0) "size") (tNil)))))
theorem pure_Span_ends {x : V} {H : Hp} {Q : VK} {E : XK} (h : F_Span_ends K x H Q E) : t_Span_ends K E ⟨fun _ H' => Q .non H', Q, fun _ _ => False, fun _ _ => False⟩ [some x] H := by
  obtain ⟨a, dx, e, rfl, ha, q⟩ := h
  unfold spanF at ha
  unfold t_Span_ends
  walk_at "go"
  exact q
def F_Span_narrow (K : PySem.W.Frag) : V → V → V → Hp → VK → XK → Prop := fun x y z H Q E => ∃ (a dx : Addr) (e : Ends3) (n : Nat), x = .ref a ∧ H a = some (.ins (He.ga K "Span") dx (spanF e)) ∧ WSp n e ∧ n ≤ 100000 ∧ TyW K H y ∧ TyW K H z ∧
  (btw 32768 16744448 y = false → E (.ref (He.ga K "NoChance")) none H) ∧ (btw 32768 16744448 y = true → btw 0 1 z = false → E (.ref (He.ga K "NoBit")) none H) ∧
  (∀ c b : Int, y = .int c → z = .int b → 32768 ≤ c → c ≤ 16744448 → 0 ≤ b → b ≤ 1 → Q .non (upd H a (.ins (He.ga K "Span") dx (spanF (nar e c b)))))
abbrev sp_Span_narrow (K : PySem.W.Frag) : Sp := on3 (F_Span_narrow K)
theorem narrow_of {a dx : Addr} {e : Ends3} {n : Nat} {c b : Int} {H : Hp} {Q : VK} {E : XK} (ha : H a = some (.ins (He.ga K "Span") dx (spanF e))) (w : WSp n e) (hn : n ≤ 100000) (hc : 32768 ≤ c ∧ c ≤ 16744448) (hb : 0 ≤ b ∧ b ≤ 1)
    (q : Q .non (upd H a (.ins (He.ga K "Span") dx (spanF (nar e c b))))) : F_Span_narrow K (.ref a) (.int c) (.int b) H Q E := by
  have bt : ∀ {u v i : Int}, u ≤ i ∧ i ≤ v → btw u v (.int i) = true := fun h => by rw [btw, decide_eq_true h.1, decide_eq_true h.2]; rfl
  refine ⟨a, dx, e, n, rfl, ha, w, hn, .int, .int, fun k => ?_, fun _ k => ?_, fun c' b' e1 e2 _ _ _ _ => ?_⟩
  · rw [bt hc] at k; cases k
  · rw [bt hb] at k; cases k
  · cases e1
    cases e2
    exact q
def t_Span_narrow (K : PySem.W.Frag) (E : XK) : TS :=
  tSeq (tAsg (tFun (sp_checked_chance K) [] (fun _ => E) (tCons (tVar 1) (tNil))) (gName 3))
  (tSeq (tAsg (tFun (sp_checked_bit K) [] (fun _ => E) (tCons (tVar 2) (tNil))) (gName 4))
  (tSeq (tAsg (tOp (rFloor) (tOp (rTimes) (tFld K (tVar 0) "width") (tVar 3)) (tC (.int 16777216))) (gName 5))
  (tSeq (tIfS (tTest (tOp (rSame K) (tVar 4) (tC (.int 1)))) (sFld K (tVar 0) (tVar 5) "width") (tSeq (sFldAug K (tVar 0) (tVar 5) L2.rAdd "low")
  (sFldAug K (tVar 0) (tVar 5) L2.rSub "width")))
  (tWhile (tTest (tOp (iLt) (tFld K (tVar 0) "width") (tC (.int 4294967296)))) (tSeq (sFld K (tVar 0) (tOp (rLsh) (tFld K (tVar 0) "low") (tC (.int 8))) "low")
  (tSeq (sFld K (tVar 0) (tOp (rLsh) (tFld K (tVar 0) "width") (tC (.int 8))) "width")
  (sFldAug K (tVar 0) (tC (.int 1)) L2.rAdd "size")))))))
theorem pure_Span_narrow {x y z : V} {H : Hp} {Q : VK} {E : XK} (h : F_Span_narrow K x y z H Q E) : t_Span_narrow K E ⟨fun _ H' => Q .non H', Q, fun _ _ => False, fun _ _ => False⟩ [some x, some y, some z, none, none, none] H := by
  obtain ⟨a, dx, e, n, rfl, ha, w, hn, ty, tz, r1, r2, q⟩ := h
  unfold t_Span_narrow
  walk_at "go"
  refine ⟨ty, fun hy => ?_, r1⟩
  walk_at "go"
  refine ⟨tz, fun hz => ?_, r2 hy⟩
  obtain ⟨c, rfl, c1, c2⟩ := btw_int hy
  obtain ⟨b, rfl, b1, b2⟩ := btw_int hz
  have q := q c b rfl rfl c1 c2 b1 b2
  have key : ∀ u l w s, WMid 5 n l w s → nrm 5 l w s = nar e c b → tWhile (tTest (tOp (iLt) (tFld K (tVar 0) "width") (tC (.int 4294967296)))) (tSeq (sFld K (tVar 0) (tOp (rLsh) (tFld K (tVar 0) "low") (tC (.int 8))) "low")
      (tSeq (sFld K (tVar 0) (tOp (rLsh) (tFld K (tVar 0) "width") (tC (.int 8))) "width") (sFldAug K (tVar 0) (tC (.int 1)) L2.rAdd "size")))
      ⟨fun _ H' => Q .non H', Q, fun _ _ => False, fun _ _ => False⟩ [some (.ref a), some (.int c), some (.int b), some (.int c), some (.int b), u] (upd H a (.ins (He.ga K "Span") dx [("low", .int l), ("width", .int w), ("size", .int s)])) := by
    intro u l w s M0 R0
    refine g_while (fun m σ H' => ∃ l w s, σ = [some (.ref a), some (.int c), some (.int b), some (.int c), some (.int b), u] ∧ H' = upd H a (.ins (He.ga K "Span") dx [("low", .int l), ("width", .int w), ("size", .int s)]) ∧ WMid m n l w s ∧ nrm m l w s = nar e c b) 5 ⟨l, w, s, rfl, rfl, M0, R0⟩ ?_
    rintro m σ H' ⟨l, w, s, rfl, rfl, M, R⟩
    walk_at "go"
    refine dif (fun h => ?_) fun h => ?_
    · cases m with
      | zero => exact (M.zero h).elim
      | succ m =>
        walk_at "go"
        refine g_lshE (e := 256) (shl_256 M hn) (by decide) ?_
        walk_at "go"
        refine g_lshE (e := 256) (shl_w M) (by decide) ?_
        walk_at "go"
        exact ⟨m, Nat.lt_succ_self m, _, _, _, rfl, rfl, M.next h, by rw [← R]; show nrm m _ _ _ = (if _ then _ else _); rw [if_pos h]⟩
    · walk_at "go"
      have R2 : nar e c b = (l, w, s) := by
        rw [← R]
        cases m with
        | zero => rfl
        | succ m => show (if _ then _ else _) = _; rw [if_neg h]
      rw [R2] at q
      exact q
  unfold spanF at ha
  walk_at "go"
  refine dif (fun hb => ?_) fun hb => ?_
  · walk_at "go"
    exact key _ _ _ _ (mid1 w c1 c2) (by unfold nar; rw [if_pos hb]; rfl)
  · walk_at "go"
    exact key _ _ _ _ (mid0 w c1 c2) (by unfold nar; rw [if_neg hb]; rfl)
end
/-! bytes of a number; by which bytes a span is told -/
def byt : Nat → Int → List Int
  | 0, _ => []
  | k + 1, v => byt k (v / 256) ++ [v % 256]
def lows : Nat → Int → List Int
  | 0, _ => []
  | k + 1, v => v % 256 :: lows k (v / 256)
theorem lows_rev : ∀ (k : Nat) (v : Int), (lows k v).reverse = byt k v
  | 0, _ => rfl
  | k + 1, v => by rw [lows, List.reverse_cons, lows_rev k, byt]
theorem lows_snoc : ∀ (k : Nat) (v : Int), lows (k + 1) v = lows k v ++ [v / 256 ^ k % 256]
  | 0, v => by simp [lows]
  | k + 1, v => by
    rw [lows, lows_snoc k (v / 256), lows, List.cons_append]
    congr 3
    rw [Int.ediv_ediv_of_nonneg (by decide), Int.pow_succ, Int.mul_comm]
theorem byt_len : ∀ (k : Nat) (v : Int), (byt k v).length = k
  | 0, _ => rfl
  | k + 1, v => by rw [byt, List.length_append, byt_len k]; rfl
theorem lows_len : ∀ (k : Nat) (v : Int), (lows k v).length = k
  | 0, _ => rfl
  | k + 1, v => by rw [lows, List.length_cons, lows_len k]
theorem byt_ok : ∀ (k : Nat) (v : Int), ∀ z ∈ byt k v, 0 ≤ z ∧ z ≤ 255
  | 0, _, z, h => nomatch h
  | k + 1, v, z, h => by
    rcases List.mem_append.mp h with h | h
    · exact byt_ok k _ z h
    · have := List.mem_singleton.mp h
      omega
def valOf (bs : List Int) : Int := bs.foldl (fun n b => n * 256 + b) 0
theorem valOf_snoc (bs : List Int) (b : Int) : valOf (bs ++ [b]) = valOf bs * 256 + b := by
  unfold valOf
  rw [List.foldl_append]
  rfl
theorem valOf_byt : ∀ (k : Nat) (v : Int), 0 ≤ v → v < 256 ^ k → valOf (byt k v) = v
  | 0, v, h, h2 => by
    simp at h2
    have : v = 0 := by omega
    rw [this]; rfl
  | k + 1, v, h, h2 => by
    rw [byt, valOf_snoc, valOf_byt k (v / 256) (by omega) (by rw [Int.pow_succ] at h2; omega)]
    omega
theorem g_mask8 {i : Int} {H : Hp} {Q : VK} (q : Q (.int (i % 256)) H) : rMask (.int i) (.int 255) H Q := ⟨i, 8, rfl, by decide, q⟩
theorem g_shr8 {i : Int} {H : Hp} {Q : VK} (q : Q (.int (i / 256)) H) : rRsh (.int i) (.int 8) H Q := g_rshE (e := 256) (by decide) (by decide) q
theorem pow256_le {a b : Nat} (h : a ≤ b) : (256 : Int) ^ a ≤ 256 ^ b := by
  have e : ∀ n : Nat, (256 : Int) ^ n = ((256 ^ n : Nat) : Int) := fun n => by simp
  rw [e, e]
  exact Int.ofNat_le.mpr (Nat.pow_le_pow_right (by decide) h)
def F_bytes_of_number (K : PySem.W.Frag) : V → V → Hp → VK → XK → Prop := fun x y H Q _ => ∃ (v : Int) (k : Nat), x = .int v ∧ y = .int k ∧ k ≤ 900000 ∧ ∀ l H', H l = none → Same H H' → H' l = some (.lst ((byt k v).map V.int)) → Q (.ref l) H'
abbrev sp_bytes_of_number (K : PySem.W.Frag) : Sp := on2 (F_bytes_of_number K)
def t_bytes_of_number (K : PySem.W.Frag) (E : XK) : TS :=
  tSeq (tAsg (tLst (tNil)) (gName 2))
  (tSeq (tFor (iRng1 (tCons (tVar 1) (tNil))) (gName 3) (tSeq (tDrop (tBM K "list" (rAppend) (tVar 2) (tCons (tOp (rMask) (tVar 0) (tC (.int 255))) (tNil))))
  (tAsg (tOp (rRsh) (tVar 0) (tC (.int 8))) (gName 0))))
  (tSeq (tDrop (tBM0 K "list" (rReverse) (tVar 2)))
  (tRet (tVar 2))))
theorem pure_bytes_of_number (K : PySem.W.Frag) {x y : V} {H : Hp} {Q : VK} {E : XK} (h : F_bytes_of_number K x y H Q E) : t_bytes_of_number K E ⟨fun _ H' => Q .non H', Q, fun _ _ => False, fun _ _ => False⟩ [some x, some y, none, none] H := by
  obtain ⟨v, k, rfl, rfl, hk, q⟩ := h
  unfold t_bytes_of_number
  walk_at "go"
  intro l nl
  walk_at "go"
  refine for_R1 (k := k) rfl (by omega) (fun i σ H1 => ∃ u, σ = [some (.int (v / 256 ^ i)), some (.int k), some (.ref l), u] ∧ Same H H1 ∧ H1 l = some (.lst ((lows i v).map V.int))) ?_ ?_ ?_
  · exact ⟨none, by simp, by walk_at "sm", upd_same⟩
  · rintro i σ H1 hi ⟨u, rfl, s, e⟩
    have hl : (lows i v).length = i := lows_len i v
    walk_at "go"
    refine g_mask8 ?_
    walk_at "go"
    refine g_shr8 ?_
    walk_at "go"
    refine ⟨some (.int i), ?_, by walk_at "sm", ?_⟩
    · rw [Int.pow_succ, Int.ediv_ediv_of_nonneg (Int.pow_nonneg (by decide))]
    · rw [upd_same, lows_snoc, List.map_append]; rfl
  · rintro σ H1 ⟨u, rfl, s, e⟩
    walk_at "go"
    refine q l _ nl (by walk_at "sm") ?_
    rw [upd_same, ← List.map_reverse, lows_rev]
/-! told -/
def cdv (l b : Int) : Int := -(-l / b)
def fitB (l w b : Int) : Prop := (cdv l b + 1) * b ≤ l + w
instance {l w b : Int} : Decidable (fitB l w b) := by unfold fitB; infer_instance
def tellB (e : Ends3) : Nat := if fitB e.1 e.2.1 1099511627776 then 5 else if fitB e.1 e.2.1 4294967296 then 4 else 3
def tellF (e : Ends3) : Int := if fitB e.1 e.2.1 1099511627776 then cdv e.1 1099511627776 else if fitB e.1 e.2.1 4294967296 then cdv e.1 4294967296 else cdv e.1 16777216
def tell (e : Ends3) : List Int := byt (e.2.2.toNat - tellB e) (tellF e)
/-- what told gives: the least number, as many bytes -/
structure Tells (e : Ends3) (b : Nat) (f : Int) : Prop where
  b3 : 3 ≤ b
  b5 : b ≤ 5
  lo : e.1 ≤ f * 256 ^ b
  lo2 : (f - 1) * 256 ^ b < e.1
  hi : (f + 1) * 256 ^ b ≤ e.1 + e.2.1
theorem tells {n : Nat} {e : Ends3} (w : WSp n e) : Tells e (tellB e) (tellF e) ∧ 0 ≤ tellF e ∧ tellF e < 256 ^ (e.2.2.toNat - tellB e) := by
  have h1 := w.lo
  have h2 := w.wi
  have h3 := w.wi2
  have T : Tells e (tellB e) (tellF e) := by
    unfold tellB tellF
    by_cases c5 : fitB e.1 e.2.1 1099511627776
    · rw [if_pos c5, if_pos c5]
      unfold fitB cdv at c5
      unfold cdv
      exact ⟨by decide, by decide, by omega, by omega, by omega⟩
    · rw [if_neg c5, if_neg c5]
      by_cases c4 : fitB e.1 e.2.1 4294967296
      · rw [if_pos c4, if_pos c4]
        unfold fitB cdv at c4
        unfold cdv
        exact ⟨by decide, by decide, by omega, by omega, by omega⟩
      · rw [if_neg c4, if_neg c4]
        unfold cdv
        exact ⟨by decide, by decide, by omega, by omega, by omega⟩
  have f0 : 0 ≤ tellF e := by
    unfold tellF cdv
    split
    · omega
    · split <;> omega
  refine ⟨T, f0, ?_⟩
  have hs : 5 ≤ e.2.2.toNat := by have := w.si; omega
  have p : (256 : Int) ^ e.2.2.toNat = 256 ^ (e.2.2.toNat - tellB e) * 256 ^ tellB e := by
    rw [← Int.pow_add]
    congr 1
    have := T.b5
    omega
  have hf := w.fit
  have := T.hi
  rw [p] at hf
  have hp : (0 : Int) < 256 ^ tellB e := Int.pow_pos (by decide)
  have k : (tellF e + 1) * 256 ^ tellB e ≤ 256 ^ (e.2.2.toNat - tellB e) * 256 ^ tellB e := Int.le_trans this hf
  have := Int.le_of_mul_le_mul_right k hp
  omega
section
variable (K : PySem.W.Frag) [HasCls K "Span"] [HasNo K "Span" "low"] [HasNo K "Span" "width"] [HasNo K "Span" "size"]
def F_Span_told (K : PySem.W.Frag) : V → Hp → VK → XK → Prop := fun x H Q _ => ∃ (a dx : Addr) (e : Ends3) (n : Nat), x = .ref a ∧ H a = some (.ins (He.ga K "Span") dx (spanF e)) ∧ WSp n e ∧ n ≤ 100000 ∧ ∀ l H', H l = none → Same H H' → H' l = some (.lst ((tell e).map V.int)) → Q (.ref l) H'
abbrev sp_Span_told (K : PySem.W.Frag) : Sp := on1 (F_Span_told K)
def blk : Nat → Int
  | 0 => 16777216
  | 1 => 4294967296
  | _ => 1099511627776
def t_Span_told (K : PySem.W.Frag) (E : XK) : TS :=
  tSeq (tAsg (tC (.int 5)) (gName 1))
  (tSeq (tAsg (tC (.int 1099511627776)) (gName 2))
  (tSeq (tAsg (tUn rNeg (tOp (rFloor) (tUn rNeg (tFld K (tVar 0) "low")) (tVar 2))) (gName 3))
  (tSeq (tWhile (tTest (tOp (iGt) (tOp (rTimes) (tOp (rPlus K) (tVar 3) (tC (.int 1))) (tVar 2)) (tOp (rPlus K) (tFld K (tVar 0) "low") (tFld K (tVar 0) "width")))) (tSeq (tAug 1 (tC (.int 1)) (ipI fun i j => i - j))
  (tSeq (tAsg (tOp (rRsh) (tVar 2) (tC (.int 8))) (gName 2))
  (tAsg (tUn rNeg (tOp (rFloor) (tUn rNeg (tFld K (tVar 0) "low")) (tVar 2))) (gName 3)))))
  (tRet (tFun (sp_bytes_of_number K) [] (fun _ => E) (tCons (tVar 3) (tCons (tOp (rMinus) (tFld K (tVar 0) "size") (tVar 1)) (tNil))))))))
theorem pure_Span_told {x : V} {H : Hp} {Q : VK} {E : XK} (h : F_Span_told K x H Q E) : t_Span_told K E ⟨fun _ H' => Q .non H', Q, fun _ _ => False, fun _ _ => False⟩ [some x, none, none, none] H := by
  obtain ⟨a, dx, e, n, rfl, ha, w, hn, q⟩ := h
  have h1 := w.lo
  have h2 := w.wi
  have h3 := w.wi2
  have h5 := w.si
  have h6 := w.si2
  unfold spanF at ha
  unfold t_Span_told
  walk_at "go"
  refine g_while (fun m σ H' => m ≤ 2 ∧ σ = [some (.ref a), some (.int ((m : Int) + 3)), some (.int (blk m)), some (.int (cdv e.1 (blk m)))] ∧ H' = H ∧ (m ≤ 1 → ¬ fitB e.1 e.2.1 1099511627776) ∧ (m = 0 → ¬ fitB e.1 e.2.1 4294967296)) 2 ⟨by decide, rfl, rfl, fun h => absurd h (by decide), fun h => absurd h (by decide)⟩ ?_
  rintro m σ H' ⟨hm, rfl, rfl, n5, n4⟩
  walk_at "go"
  have done : ∀ b f, tellB e = b → tellF e = f → F_bytes_of_number K (.int f) (.int (e.2.2 - (b : Int))) H' Q E := by
    rintro b f rfl rfl
    have b5 := (tells w).1.b5
    exact ⟨_, e.2.2.toNat - tellB e, rfl, by congr 1; omega, by omega, q⟩
  match m, hm with
  | 0, _ =>
    refine g_mul (.inr (by decide)) ?_
    walk_at "go"
    refine difX (by simp only [cdv, blk]; omega) ?_
    walk_at "go"
    exact done 3 _ (by unfold tellB; rw [if_neg (n5 (by decide)), if_neg (n4 rfl)]) (by unfold tellF; rw [if_neg (n5 (by decide)), if_neg (n4 rfl)]; rfl)
  | 1, _ =>
    refine g_mul (.inr (by decide)) ?_
    walk_at "go"
    refine dif (fun h => ?_) fun h => ?_
    · walk_at "go"
      refine g_shr8 ?_
      walk_at "go"
      exact ⟨0, by decide, by decide, rfl, rfl, fun _ => n5 (by decide), fun _ c => by unfold fitB at c; simp only [blk] at h; omega⟩
    · walk_at "go"
      have f4 : fitB e.1 e.2.1 4294967296 := by unfold fitB; simp only [blk] at h; omega
      exact done 4 _ (by unfold tellB; rw [if_neg (n5 (by decide)), if_pos f4]) (by unfold tellF; rw [if_neg (n5 (by decide)), if_pos f4]; rfl)
  | 2, _ =>
    refine g_mul (.inr (by decide)) ?_
    walk_at "go"
    refine dif (fun h => ?_) fun h => ?_
    · walk_at "go"
      refine g_shr8 ?_
      walk_at "go"
      exact ⟨1, by decide, by decide, rfl, rfl, fun _ c => by unfold fitB at c; simp only [blk] at h; omega, fun c => absurd c (by decide)⟩
    · walk_at "go"
      have f5 : fitB e.1 e.2.1 1099511627776 := by unfold fitB; simp only [blk] at h; omega
      exact done 5 _ (by unfold tellB; rw [if_pos f5]) (by unfold tellF; rw [if_pos f5]; rfl)
end
/-! a seeker: the bytes, its span, the number of the bytes that were taken -/
def num (d : List Int) : Nat → Int
  | 0 => 0
  | m + 1 => num d m * 256 + d.getD m 0
def Byts (d : List Int) : Prop := ∀ z ∈ d, 0 ≤ z ∧ z ≤ 255
theorem byt_at {d : List Int} (h : Byts d) (m : Nat) : 0 ≤ d.getD m 0 ∧ d.getD m 0 ≤ 255 := by
  rw [List.getD_eq_getElem?_getD]
  cases e : d[m]? with
  | none => exact ⟨by decide, by decide⟩
  | some z => exact h z (List.mem_of_getElem? e)
theorem num_lt {d : List Int} (h : Byts d) : ∀ m : Nat, 0 ≤ num d m ∧ num d m < 256 ^ m
  | 0 => ⟨Int.le_refl _, by show (0 : Int) < 1; decide⟩
  | m + 1 => by
    obtain ⟨a, b⟩ := num_lt h m
    have c := byt_at h m
    unfold num
    rw [Int.pow_succ]
    omega
theorem num_add {d : List Int} (h : Byts d) (m : Nat) : ∀ j : Nat, num d m * 256 ^ j ≤ num d (m + j) ∧ num d (m + j) < (num d m + 1) * 256 ^ j
  | 0 => by simp; omega
  | j + 1 => by
    obtain ⟨a, b⟩ := num_add h m j
    have c := byt_at h (m + j)
    have e : num d (m + (j + 1)) = num d (m + j) * 256 + d.getD (m + j) 0 := rfl
    rw [e, Int.pow_succ, ← Int.mul_assoc, ← Int.mul_assoc]
    omega
def bitOf (d : List Int) (e : Ends3) (c : Int) : Int := if num d e.2.2.toNat < e.1 + cutOf e c then 1 else 0
/-- the number lies in the span -/
def Within (d : List Int) (e : Ends3) : Prop := e.1 ≤ num d e.2.2.toNat ∧ num d e.2.2.toNat < e.1 + e.2.1
theorem within_nar {n : Nat} {d : List Int} {e : Ends3} {c : Int} (hd : Byts d) (w : WSp n e) (c1 : 32768 ≤ c) (c2 : c ≤ 16744448) (h : Within d e) : Within d (nar e c (bitOf d e c)) := by
  have h5 := w.si
  unfold Within at *
  unfold bitOf
  have key : ∀ l v : Int, l ≤ num d e.2.2.toNat → num d e.2.2.toNat < l + v → ∀ R, R = nrm 5 l v e.2.2 → R.1 ≤ num d R.2.2.toNat ∧ num d R.2.2.toNat < R.1 + R.2.1 := by
    intro l v a b R hR
    obtain ⟨j, _, q⟩ := nrm_is 5 l v e.2.2
    rw [hR, q]
    have t : (e.2.2 + (j : Int)).toNat = e.2.2.toNat + j := by omega
    show l * 256 ^ j ≤ num d (e.2.2 + (j : Int)).toNat ∧ num d (e.2.2 + (j : Int)).toNat < l * 256 ^ j + v * 256 ^ j
    rw [t, ← Int.add_mul]
    obtain ⟨x, y⟩ := num_add hd e.2.2.toNat j
    have hj : (0 : Int) ≤ 256 ^ j := Int.pow_nonneg (by decide)
    exact ⟨Int.le_trans (Int.mul_le_mul_of_nonneg_right a hj) x, Int.lt_of_lt_of_le y (Int.mul_le_mul_of_nonneg_right (by omega) hj)⟩
  by_cases k : num d e.2.2.toNat < e.1 + cutOf e c
  · rw [if_pos k]
    exact key e.1 (cutOf e c) h.1 k _ (by unfold nar; rw [if_pos rfl])
  · rw [if_neg k]
    exact key (e.1 + cutOf e c) (e.2.1 - cutOf e c) (by omega) (by omega) _ (by unfold nar; rw [if_neg (by decide)])
def seekF (r sp : Addr) (d : List Int) (t : Nat) : List (Str × V) := [("row", .ref r), ("span", .ref sp), ("number", .int (num d t)), ("taken", .int (t : Int))]
structure SeekAt (K : PySem.W.Frag) (H : Hp) (a dx r sp sdx : Addr) (d : List Int) (e : Ends3) (t : Nat) : Prop where
  ins : H a = some (.ins (He.ga K "Seeker") dx (seekF r sp d t))
  row : H r = some (.lst (d.map V.int))
  spn : H sp = some (.ins (He.ga K "Span") sdx (spanF e))
  nsp : sp ≠ a
theorem SeekAt.same {K : PySem.W.Frag} {H H1 : Hp} {a dx r sp sdx : Addr} {d : List Int} {e : Ends3} {t : Nat} (h : SeekAt K H a dx r sp sdx d e t) (s : Same H H1) : SeekAt K H1 a dx r sp sdx d e t := ⟨s _ _ h.ins, s _ _ h.row, s _ _ h.spn, h.nsp⟩
theorem shl_num {d : List Int} (h : Byts d) {t : Nat} (ht : t ≤ 1000000) : CShl (num d t) 8 := by
  obtain ⟨a, b⟩ := num_lt h t
  have := bits_256 a b
  refine ⟨by decide, ?_⟩
  have e : (2 : Int) ^ 27 = 134217728 := by decide
  rw [e]
  omega
section
variable (K : PySem.W.Frag) [HasCls K "Seeker"] [HasNo K "Seeker" "row"] [HasNo K "Seeker" "span"] [HasNo K "Seeker" "number"] [HasNo K "Seeker" "taken"]
def F_Seeker_take (K : PySem.W.Frag) : V → Hp → VK → XK → Prop := fun x H Q _ => ∃ (a dx r sp sdx : Addr) (d : List Int) (e : Ends3) (t n : Nat), x = .ref a ∧ SeekAt K H a dx r sp sdx d e t ∧ t ≤ e.2.2.toNat ∧ Byts d ∧ d.length ≤ 100000 ∧ WSp n e ∧ n ≤ 100000 ∧
  ∀ H', SameX (· = a) H H' → H' a = some (.ins (He.ga K "Seeker") dx (seekF r sp d e.2.2.toNat)) → Q .non H'
abbrev sp_Seeker_take (K : PySem.W.Frag) : Sp := on1 (F_Seeker_take K)
def t_Seeker_take (K : PySem.W.Frag) (E : XK) : TS :=
  tSeq (tAsg (tOp (rIx K) (tMth "ends" (one (He.ga K "Span") (sp_Span_ends K)) (fun _ => E) (tFld K (tVar 0) "span") (tNil)) (tC (.int 2))) (gName 1))
  (tWhile (tTest (tOp (iLt) (tFld K (tVar 0) "taken") (tVar 1))) (tSeq (tAsg (tC (.int 0)) (gName 2))
  (tSeq (tIfS (tTest (tOp (iLt) (tFld K (tVar 0) "taken") (tCB (rLength K) (tCons (tFld K (tVar 0) "row") (tNil))))) (tAsg (tOp (rIx K) (tFld K (tVar 0) "row") (tFld K (tVar 0) "taken")) (gName 2)) (tNext))
  (tSeq (sFld K (tVar 0) (tOp (rPlus K) (tOp (rLsh) (tFld K (tVar 0) "number") (tC (.int 8))) (tVar 2)) "number")
  (sFldAug K (tVar 0) (tC (.int 1)) L2.rAdd "taken")))))
theorem pure_Seeker_take {x : V} {H : Hp} {Q : VK} {E : XK} (h : F_Seeker_take K x H Q E) : t_Seeker_take K E ⟨fun _ H' => Q .non H', Q, fun _ _ => False, fun _ _ => False⟩ [some x, none, none] H := by
  obtain ⟨a, dx, r, sp, sdx, d, e, t, n, rfl, ⟨ha, hr, hsp, nsp⟩, ht, hd, dl, w, hn, q⟩ := h
  have h5 := w.si
  have h6 := w.si2
  unfold seekF at ha
  unfold t_Seeker_take
  walk_at "go"
  refine ⟨sp, sdx, e, rfl, hsp, fun p np => ?_⟩
  have ep : (upd H p (.tup (endV e))) p = some (.tup [.int e.1, .int e.2.1, .int e.2.2]) := upd_same
  have s := same_new (u := .tup (endV e)) (Same.refl H) np
  have ha := lk_new (u := (.tup (endV e))) ha np
  have hr := lk_new (u := (.tup (endV e))) hr np
  generalize upd H p (.tup (endV e)) = H1 at ep s ha hr
  walk_at "go"
  refine g_while (fun m σ H2 => ∃ t u, t + m = e.2.2.toNat ∧ σ = [some (.ref a), some (.int e.2.2), u] ∧ SameX (· = a) H H2 ∧ H2 r = some (.lst (d.map V.int)) ∧ H2 a = some (.ins (He.ga K "Seeker") dx [("row", .ref r), ("span", .ref sp), ("number", .int (num d t)), ("taken", .int (t : Int))])) (e.2.2.toNat - t) ⟨t, _, by omega, rfl, SameX.of s, hr, ha⟩ ?_
  have hra : r ≠ a := ne_kind hr ha (by intro z; cases z)
  have hr0 := hr
  have s1 := s
  rintro m σ H2 ⟨t, u, hm, rfl, s, hr2, ha⟩
  walk_at "go"
  refine dif (fun h => ?_) fun h => ?_
  · walk_at "go"
    rw [List.length_map]
    have b := byt_at hd t
    have nx : num d (t + 1) = num d t * 256 + d.getD t 0 := rfl
    refine dif (fun h2 => ?_) fun h2 => ?_
    · walk_at "go"
      refine g_ixL (sq_of hr2) (ix_ints (by omega)) ?_
      walk_at "go"
      refine g_lshE (e := 256) (shl_num hd (by omega)) (by decide) ?_
      walk_at "go"
      refine ⟨m - 1, by omega, t + 1, _, by omega, rfl, (s.mut rfl), lk_mut hra hr2, ?_⟩
      rw [upd_same, nx]
      rfl
    · have z : d.getD t 0 = 0 := by rw [List.getD_eq_getElem?_getD, List.getElem?_eq_none (by omega)]; rfl
      walk_at "go"
      refine g_lshE (e := 256) (shl_num hd (by omega)) (by decide) ?_
      walk_at "go"
      refine ⟨m - 1, by omega, t + 1, _, by omega, rfl, (s.mut rfl), lk_mut hra hr2, ?_⟩
      rw [upd_same, nx, z]
      rfl
  · walk_at "go"
    have e0 : t = e.2.2.toNat := by omega
    subst e0
    exact q _ s ha
variable [HasCls K "Span"] [HasNo K "Span" "low"] [HasNo K "Span" "width"] [HasNo K "Span" "size"]
theorem wsp0' : WSp 0 (0, 1099511627776, 5) := ⟨by decide, by decide, by decide, by decide, by decide, by decide⟩
def F_Seeker_init (K : PySem.W.Frag) : V → V → Hp → VK → XK → Prop := fun x y H Q E => ∃ (a dx : Addr) (bb : Bool), x = .ref a ∧ H a = some (.ins (He.ga K "Seeker") dx []) ∧ SgT K H 12000 y bb ∧ (bb = false → ∀ H', Same H H' → E (.ref (He.ga K "NoBytes")) none H') ∧
  (bb = true → ∀ b ns, y = .ref b → H b = some (.lst (ns.map V.int)) → TextOk 12000 ns → ∀ r sp sdx H', H r = none → H sp = none → SameX (· = a) H H' → SeekAt K H' a dx r sp sdx ns (0, 1099511627776, 5) 5 → Q .non H')
abbrev sp_Seeker_init (K : PySem.W.Frag) : Sp := on2 (F_Seeker_init K)
def t_Seeker_init (K : PySem.W.Frag) (E : XK) : TS :=
  tSeq (sFld K (tVar 0) (tFun (sp_checked_bytes K) [] (fun _ => E) (tCons (tVar 1) (tNil))) "row")
  (tSeq (sFld K (tVar 0) (tNew (He.ga K "Span") (sp_Span_init K) [] (fun _ => E) (tNil)) "span")
  (tSeq (sFld K (tVar 0) (tC (.int 0)) "number")
  (tSeq (sFld K (tVar 0) (tC (.int 0)) "taken")
  (tDrop (tMth "take" (one (He.ga K "Seeker") (sp_Seeker_take K)) (fun _ => E) (tVar 0) (tNil))))))
theorem pure_Seeker_init {x y : V} {H : Hp} {Q : VK} {E : XK} (h : F_Seeker_init K x y H Q E) : t_Seeker_init K E ⟨fun _ H' => Q .non H', Q, fun _ _ => False, fun _ _ => False⟩ [some x, some y] H := by
  obtain ⟨a, dx, bb, rfl, ha, S, r0, q⟩ := h
  unfold t_Seeker_init
  walk_at "go"
  refine ⟨bb, S, r0, fun hb b ns hy hbb T r H1 nr s1 er => ?_⟩
  have q := q hb b ns hy hbb T
  have ea := s1 _ _ ha
  have X1 : SameX (· = a) H H1 := SameX.of s1
  clear s1
  walk_at "go"
  have hra : r ≠ a := ne_kind er ea (by intro z; cases z)
  have er := lk_mut (u := .ins (He.ga K "Seeker") dx [("row", .ref r)]) hra er
  have ea : (upd H1 a (.ins (He.ga K "Seeker") dx [("row", .ref r)])) a = some (.ins (He.ga K "Seeker") dx [("row", .ref r)]) := upd_same
  have X1 := X1.mut (o := .ins (He.ga K "Seeker") dx [("row", .ref r)]) rfl
  generalize upd H1 a (.ins (He.ga K "Seeker") dx [("row", .ref r)]) = H2 at er ea X1
  walk_at "go"
  intro sp sdx nsp nsdx nsd
  walk_at "go"
  refine ⟨sp, sdx, rfl, upd_same, rfl, ?_⟩
  rw [upd_upd]
  have nspa : sp ≠ a := fun e => by rw [e, ea] at nsp; cases nsp
  have nspH : H sp = none := X1.dm _ nsp
  have nsp' : upd H2 sdx (.own sp) sp = none := by rw [upd_ne nsd.symm]; exact nsp
  have er := lk_new (u := .ins (He.ga K "Span") sdx (spanF (0, 1099511627776, 5))) (lk_new (u := .own sp) er nsdx) nsp'
  have ea := lk_new (u := .ins (He.ga K "Span") sdx (spanF (0, 1099511627776, 5))) (lk_new (u := .own sp) ea nsdx) nsp'
  have X1 := SameX.new (o := .ins (He.ga K "Span") sdx (spanF (0, 1099511627776, 5))) (SameX.new (o := .own sp) X1 nsdx) nsp'
  have esp : (upd (upd H2 sdx (.own sp)) sp (.ins (He.ga K "Span") sdx (spanF (0, 1099511627776, 5)))) sp = some (.ins (He.ga K "Span") sdx (spanF (0, 1099511627776, 5))) := upd_same
  generalize upd (upd H2 sdx (.own sp)) sp (.ins (He.ga K "Span") sdx (spanF (0, 1099511627776, 5))) = H3 at er ea X1 esp
  walk_at "go"
  refine ⟨a, dx, r, sp, sdx, ns, (0, 1099511627776, 5), 0, 0, rfl, ⟨upd_same, lk_mut hra er, lk_mut nspa esp, nspa⟩, by omega, T.all, Nat.le_trans T.len (by decide), wsp0', by decide, fun H5 s5 e5 => ?_⟩
  refine q r sp sdx H5 nr nspH (SameX.trans (X1.mut rfl) s5) ⟨e5, s5.kp _ _ hra (lk_mut hra er), s5.kp _ _ nspa (lk_mut nspa esp), nspa⟩
def F_Seeker_ends (K : PySem.W.Frag) : V → Hp → VK → XK → Prop := fun x H Q _ => ∃ (a dx r sp sdx : Addr) (d : List Int) (e : Ends3) (t : Nat), x = .ref a ∧ SeekAt K H a dx r sp sdx d e t ∧ ∀ p, H p = none → Q (.ref p) (upd H p (.tup (endV e)))
abbrev sp_Seeker_ends (K : PySem.W.Frag) : Sp := on1 (F_Seeker_ends K)
def F_Seeker_told (K : PySem.W.Frag) : V → Hp → VK → XK → Prop := fun x H Q _ => ∃ (a dx r sp sdx : Addr) (d : List Int) (e : Ends3) (t n : Nat), x = .ref a ∧ SeekAt K H a dx r sp sdx d e t ∧ WSp n e ∧ n ≤ 100000 ∧ ∀ l H', H l = none → Same H H' → H' l = some (.lst ((tell e).map V.int)) → Q (.ref l) H'
abbrev sp_Seeker_told (K : PySem.W.Frag) : Sp := on1 (F_Seeker_told K)
def t_Seeker_told (K : PySem.W.Frag) (E : XK) : TS :=
  tRet (tMth "told" (one (He.ga K "Span") (sp_Span_told K)) (fun _ => E) (tFld K (tVar 0) "span") (tNil))
theorem pure_Seeker_told {x : V} {H : Hp} {Q : VK} {E : XK} (h : F_Seeker_told K x H Q E) : t_Seeker_told K E ⟨fun _ H' => Q .non H', Q, fun _ _ => False, fun _ _ => False⟩ [some x] H := by
  obtain ⟨a, dx, r, sp, sdx, d, e, t, n, rfl, ⟨ha, hr, hsp, nsp⟩, w, hn, q⟩ := h
  unfold seekF at ha
  unfold t_Seeker_told
  walk_at "go"
  exact ⟨sp, sdx, e, n, rfl, hsp, w, hn, q⟩
def F_Seeker_bit (K : PySem.W.Frag) : V → V → Hp → VK → XK → Prop := fun x y H Q E => ∃ (a dx r sp sdx : Addr) (d : List Int) (e : Ends3) (n : Nat), x = .ref a ∧ SeekAt K H a dx r sp sdx d e e.2.2.toNat ∧ Byts d ∧ d.length ≤ 100000 ∧ WSp n e ∧ n ≤ 99999 ∧ TyW K H y ∧
  (btw 32768 16744448 y = false → E (.ref (He.ga K "NoChance")) none H) ∧ ∀ c : Int, y = .int c → 32768 ≤ c → c ≤ 16744448 → ∀ H', SameX (fun b => b = a ∨ b = sp) H H' → SeekAt K H' a dx r sp sdx d (nar e c (bitOf d e c)) (nar e c (bitOf d e c)).2.2.toNat → Q (.int (bitOf d e c)) H'
abbrev sp_Seeker_bit (K : PySem.W.Frag) : Sp := on2 (F_Seeker_bit K)
def t_Seeker_bit (K : PySem.W.Frag) (E : XK) : TS :=
  tSeq (tAsg (tFun (sp_checked_chance K) [] (fun _ => E) (tCons (tVar 1) (tNil))) (gName 2))
  (tSeq (tAsg (tMth "ends" (one (He.ga K "Span") (sp_Span_ends K)) (fun _ => E) (tFld K (tVar 0) "span") (tNil)) (gTup K 3 (gCons (gName 3) (gCons (gName 4) (gCons (gName 5) (gNil))))))
  (tSeq (tAsg (tCB (rInt1) (tCons (tOp (iLt) (tFld K (tVar 0) "number") (tOp (rPlus K) (tVar 3) (tOp (rFloor) (tOp (rTimes) (tVar 4) (tVar 2)) (tC (.int 16777216))))) (tNil))) (gName 6))
  (tSeq (tDrop (tMth "narrow" (one (He.ga K "Span") (sp_Span_narrow K)) (fun _ => E) (tFld K (tVar 0) "span") (tCons (tVar 2) (tCons (tVar 6) (tNil)))))
  (tSeq (tDrop (tMth "take" (one (He.ga K "Seeker") (sp_Seeker_take K)) (fun _ => E) (tVar 0) (tNil)))
  (tRet (tVar 6))))))
theorem pure_Seeker_bit {x y : V} {H : Hp} {Q : VK} {E : XK} (h : F_Seeker_bit K x y H Q E) : t_Seeker_bit K E ⟨fun _ H' => Q .non H', Q, fun _ _ => False, fun _ _ => False⟩ [some x, some y, none, none, none, none, none] H := by
  obtain ⟨a, dx, r, sp, sdx, d, e, n, rfl, ⟨ha, hr, hsp, nsp⟩, hd, dl, w, hn, ty, r0, q⟩ := h
  unfold seekF at ha
  unfold t_Seeker_bit
  walk_at "go"
  refine ⟨ty, fun hy => ?_, r0⟩
  obtain ⟨c, rfl, c1, c2⟩ := btw_int hy
  have q := q c rfl c1 c2
  walk_at "go"
  refine ⟨sp, sdx, e, rfl, hsp, fun p np => ?_⟩
  have ep : (upd H p (.tup (endV e))) p = some (.tup [.int e.1, .int e.2.1, .int e.2.2]) := upd_same
  have X1 : SameX (fun b => b = a ∨ b = sp) H (upd H p (.tup (endV e))) := SameX.new (SameX.refl H) np
  have ha := lk_new (u := (.tup (endV e))) ha np
  have hr := lk_new (u := (.tup (endV e))) hr np
  have hsp := lk_new (u := (.tup (endV e))) hsp np
  generalize upd H p (.tup (endV e)) = H1 at ep ha hr hsp X1
  have hra : r ≠ a := ne_kind hr ha (by intro z; cases z)
  have hrs : r ≠ sp := ne_kind hr hsp (by intro z; cases z)
  walk_at "go"
  have fb : (if decide (num d e.2.2.toNat < e.1 + e.2.1 * c / 16777216) = true then (1 : Int) else 0) = bitOf d e c := by
    unfold bitOf cutOf
    by_cases k : num d e.2.2.toNat < e.1 + e.2.1 * c / 16777216
    · rw [if_pos k, if_pos (decide_eq_true k)]
    · rw [if_neg k, if_neg (by simpa using k)]
  rw [fb]
  have b01 : 0 ≤ bitOf d e c ∧ bitOf d e c ≤ 1 := by unfold bitOf; split <;> decide
  walk_at "go"
  refine narrow_of K hsp w (by omega) ⟨c1, c2⟩ b01 ?_
  have wf := nar_ok (b := bitOf d e c) w c1 c2
  have ha := lk_mut (u := .ins (He.ga K "Span") sdx (spanF (nar e c (bitOf d e c)))) nsp.symm ha
  have hr := lk_mut (u := .ins (He.ga K "Span") sdx (spanF (nar e c (bitOf d e c)))) hrs hr
  have hsp : (upd H1 sp (.ins (He.ga K "Span") sdx (spanF (nar e c (bitOf d e c))))) sp = some (.ins (He.ga K "Span") sdx (spanF (nar e c (bitOf d e c)))) := upd_same
  have X1 := X1.mut (o := .ins (He.ga K "Span") sdx (spanF (nar e c (bitOf d e c)))) (.inr rfl)
  generalize upd H1 sp (.ins (He.ga K "Span") sdx (spanF (nar e c (bitOf d e c)))) = H2 at ha hr hsp X1
  obtain ⟨j, g1, _, _⟩ : ∃ j : Nat, (nar e c (bitOf d e c)).2.2 = e.2.2 + (j : Int) ∧ True ∧ True := by
    unfold nar
    split
    · obtain ⟨j, _, h⟩ := nrm_is 5 e.1 (cutOf e c) e.2.2
      exact ⟨j, by rw [h], trivial, trivial⟩
    · obtain ⟨j, _, h⟩ := nrm_is 5 (e.1 + cutOf e c) (e.2.1 - cutOf e c) e.2.2
      exact ⟨j, by rw [h], trivial, trivial⟩
  have h5 := w.si
  walk_at "go"
  refine ⟨a, dx, r, sp, sdx, d, nar e c (bitOf d e c), e.2.2.toNat, n + 1, rfl, ⟨ha, hr, hsp, nsp⟩, by omega, hd, dl, wf, by omega, fun H3 s3 e3 => ?_⟩
  walk_at "go"
  exact q H3 (SameX.trans X1 (s3.mono fun b h => .inl h)) ⟨e3, s3.kp _ _ hra hr, s3.kp _ _ nsp hsp, nsp⟩
end
/-! k09, the plain law: a row within the last span was within all ahead of it, and its bits are those that made them -/
theorem within_back {n : Nat} {d : List Int} {e : Ends3} {c b : Int} (hd : Byts d) (w : WSp n e) (c1 : 32768 ≤ c) (c2 : c ≤ 16744448) (hb : 0 ≤ b ∧ b ≤ 1) (h : Within d (nar e c b)) : Within d e ∧ bitOf d e c = b := by
  have h5 := w.si
  obtain ⟨x1, x2⟩ := cut_ok w.wi w.wi2 c1 c2
  have key : ∀ l v : Int, ∀ R, R = nrm 5 l v e.2.2 → Within d R → l ≤ num d e.2.2.toNat ∧ num d e.2.2.toNat < l + v := by
    intro l v R hR hw
    obtain ⟨j, _, q⟩ := nrm_is 5 l v e.2.2
    rw [hR, q] at hw
    have t : (e.2.2 + (j : Int)).toNat = e.2.2.toNat + j := by omega
    obtain ⟨a, b⟩ : l * 256 ^ j ≤ num d (e.2.2 + (j : Int)).toNat ∧ num d (e.2.2 + (j : Int)).toNat < l * 256 ^ j + v * 256 ^ j := hw
    rw [t] at a b
    rw [← Int.add_mul] at b
    obtain ⟨x, y⟩ := num_add hd e.2.2.toNat j
    have hj : (0 : Int) < 256 ^ j := Int.pow_pos (by decide)
    have p : l * 256 ^ j < (num d e.2.2.toNat + 1) * 256 ^ j := by omega
    have q : num d e.2.2.toNat * 256 ^ j < (l + v) * 256 ^ j := by omega
    have p' := Int.lt_of_mul_lt_mul_right p (Int.le_of_lt hj)
    have q' := Int.lt_of_mul_lt_mul_right q (Int.le_of_lt hj)
    omega
  unfold Within bitOf at *
  have e01 : b = 1 ∨ b = 0 := by omega
  rcases e01 with rfl | rfl
  · obtain ⟨a, z⟩ := key e.1 (cutOf e c) _ (by unfold nar; rw [if_pos rfl]) h
    have : cutOf e c ≤ e.2.1 := by unfold cutOf; omega
    exact ⟨⟨a, by omega⟩, by rw [if_pos z]⟩
  · obtain ⟨a, z⟩ := key (e.1 + cutOf e c) (e.2.1 - cutOf e c) _ (by unfold nar; rw [if_neg (by decide)]) h
    have : 0 ≤ cutOf e c := by unfold cutOf; omega
    exact ⟨⟨by omega, by omega⟩, by rw [if_neg (by omega)]⟩
/-- the ends behind steps -/
def narL (e : Ends3) : List (Int × Int) → Ends3
  | [] => e
  | p :: ps => narL (nar e p.1 p.2) ps
structure StepsOk (ps : List (Int × Int)) : Prop where
  all : ∀ p ∈ ps, (32768 ≤ p.1 ∧ p.1 ≤ 16744448) ∧ (0 ≤ p.2 ∧ p.2 ≤ 1)
theorem narL_ok {ps : List (Int × Int)} : ∀ {n : Nat} {e : Ends3}, StepsOk ps → WSp n e → WSp (n + ps.length) (narL e ps) := by
  induction ps with
  | nil => intro n e _ w; exact w
  | cons p ps ih =>
    intro n e h w
    have p1 := (h.all p List.mem_cons_self).1
    have := ih (n := n + 1) (e := nar e p.1 p.2) ⟨fun q hq => h.all q (List.mem_cons_of_mem _ hq)⟩ (nar_ok w p1.1 p1.2)
    have e1 : n + (p :: ps).length = n + 1 + ps.length := by rw [List.length_cons]; omega
    rw [e1]
    exact this
theorem within_first {d : List Int} (hd : Byts d) {ps : List (Int × Int)} : ∀ {n : Nat} {e : Ends3}, StepsOk ps → WSp n e → Within d (narL e ps) → Within d e := by
  induction ps with
  | nil => intro n e _ _ h; exact h
  | cons p ps ih =>
    intro n e h w hw
    obtain ⟨p1, p2⟩ := h.all p List.mem_cons_self
    have := ih (n := n + 1) (e := nar e p.1 p.2) ⟨fun q hq => h.all q (List.mem_cons_of_mem _ hq)⟩ (nar_ok w p1.1 p1.2) hw
    exact (within_back hd w p1.1 p1.2 p2 this).1
/-- told bytes, whatever stands behind them, lie in the span -/
theorem num_pre : ∀ (m : Nat) (d x : List Int), m ≤ d.length → num (d ++ x) m = num d m
  | 0, _, _, _ => rfl
  | m + 1, d, x, h => by
    unfold num
    rw [num_pre m d x (by omega), List.getD_eq_getElem?_getD, List.getD_eq_getElem?_getD, List.getElem?_append_left (by omega)]
theorem num_snoc (d : List Int) (b : Int) : num (d ++ [b]) (d.length + 1) = num d d.length * 256 + b := by
  show num (d ++ [b]) d.length * 256 + (d ++ [b]).getD d.length 0 = _
  rw [num_pre d.length d [b] (Nat.le_refl _)]
  congr 1
  simp
theorem num_byt : ∀ (k : Nat) (v : Int), 0 ≤ v → v < 256 ^ k → num (byt k v) k = v
  | 0, v, h, h2 => by
    simp at h2
    have : v = 0 := by omega
    rw [this]; rfl
  | k + 1, v, h, h2 => by
    have ih := num_byt k (v / 256) (by omega) (by rw [Int.pow_succ] at h2; omega)
    have s := num_snoc (byt k (v / 256)) (v % 256)
    rw [byt_len, ih] at s
    rw [byt, s]
    omega
theorem within_tell {n : Nat} {e : Ends3} {x : List Int} (w : WSp n e) (hx : Byts x) : Within (tell e ++ x) e := by
  obtain ⟨T, f0, f1⟩ := tells w
  have h5 := w.si
  have b5 := T.b5
  have hB : Byts (tell e ++ x) := fun z hz => by
    rcases List.mem_append.mp hz with hz | hz
    · exact byt_ok _ _ z hz
    · exact hx z hz
  have hn : num (tell e ++ x) (e.2.2.toNat - tellB e) = tellF e := by
    rw [num_pre _ _ _ (by unfold tell; rw [byt_len]; exact Nat.le_refl _)]
    exact num_byt _ _ f0 f1
  obtain ⟨a, b⟩ := num_add hB (e.2.2.toNat - tellB e) (tellB e)
  have t : e.2.2.toNat - tellB e + tellB e = e.2.2.toNat := by omega
  rw [t, hn] at a b
  have lo := T.lo
  have hi := T.hi
  exact ⟨by omega, by omega⟩
/-! pressing, the plain part: where a text's decisions lead; what its bytes lead to -/
theorem narL_append (xs ys : List (Int × Int)) : ∀ e, narL e (xs ++ ys) = narL (narL e xs) ys := by
  induction xs with
  | nil => intro e; rfl
  | cons p xs ih => intro e; exact ih _
theorem narL_take {zs : List (Int × Int)} {i : Nat} {p : Int × Int} (h : zs[i]? = some p) (e : Ends3) : narL e (zs.take (i + 1)) = nar (narL e (zs.take i)) p.1 p.2 := by
  rw [List.take_add_one, h, narL_append]
  rfl
theorem StepsOk.take {zs : List (Int × Int)} (h : StepsOk zs) (i : Nat) : StepsOk (zs.take i) := ⟨fun p hp => h.all p (List.mem_of_mem_take hp)⟩
theorem StepsOk.drop {zs : List (Int × Int)} (h : StepsOk zs) (i : Nat) : StepsOk (zs.drop i) := ⟨fun p hp => h.all p (List.mem_of_mem_drop hp)⟩
/-- at each step the bit is the one that was told -/
theorem told_bit {d : List Int} {zs : List (Int × Int)} {n : Nat} {e : Ends3} (hd : Byts d) (ok : StepsOk zs) (w : WSp n e) (W : Within d (narL e zs)) {i : Nat} {p : Int × Int} (hz : zs[i]? = some p) : bitOf d (narL e (zs.take i)) p.1 = p.2 := by
  obtain ⟨p1, p2⟩ := ok.all p (List.mem_of_getElem? hz)
  have wi := narL_ok (ok.take i) w
  have nx := narL_take hz e
  have Wn : Within d (nar (narL e (zs.take i)) p.1 p.2) := by
    rw [← nx]
    refine within_first hd (ps := zs.drop (i + 1)) (n := n + (zs.take (i + 1)).length) (ok.drop _) (narL_ok (ok.take _) w) ?_
    rw [← narL_append, List.take_append_drop]
    exact W
  exact (within_back hd wi p1.1 p1.2 p2 Wn).2
/-! ### ended, place -/
def goS (s : List Int × Int) (b : Int) : List Int × Int := (goE s.1 s.2 b, goP s.2 b)
def goF (s : List Int × Int) (bs : List Int) : List Int × Int := bs.foldl goS s
theorem goF_st (ks : List Lk) (bs : List Int) : ((stF ks bs).ended, (stF ks bs).place) = goF ([], 0) bs := by
  have key : ∀ (bs : List Int) (st : Fst), ((bs.foldl (seeF ks) st).ended, (bs.foldl (seeF ks) st).place) = goF (st.ended, st.place) bs := by
    intro bs
    induction bs with
    | nil => intro st; rfl
    | cons b bs ih => intro st; exact ih _
  exact key bs (st0 ks)
theorem goF_app (s : List Int × Int) (a b : List Int) : goF s (a ++ b) = goF (goF s a) b := by unfold goF; rw [List.foldl_append]
theorem go_one {e : List Int} {p b : Int} (hp : 0 < p) (h : 2 * p + b ≤ 255) : goS (e, p) b = (e, 2 * p + b) := by
  unfold goS goE goP
  rw [if_pos hp, if_neg (by omega), if_pos hp, if_neg (by omega)]
theorem go_end {e : List Int} {p b : Int} (hp : 0 < p) (h : 255 < 2 * p + b) : goS (e, p) b = (e ++ [2 * p + b - 256], 0) := by
  unfold goS goE goP
  rw [if_pos hp, if_pos (by omega), if_pos hp, if_pos (by omega)]
/-- amid a sign: behind its first r bits, r from 1 to 8 -/
def midP (s : Int) : Nat → Int
  | 0 => 1
  | r + 1 => 2 * midP s r + s / 2 ^ (7 - r) % 2
theorem midP_ok (s : Int) : ∀ r : Nat, 2 ^ r ≤ midP s r ∧ midP s r < 2 ^ (r + 1)
  | 0 => ⟨by show (2 : Int) ^ 0 ≤ 1; decide, by show (1 : Int) < 2 ^ (0 + 1); decide⟩
  | r + 1 => by
    obtain ⟨a, b⟩ := midP_ok s r
    show 2 ^ (r + 1) ≤ 2 * midP s r + s / 2 ^ (7 - r) % 2 ∧ 2 * midP s r + s / 2 ^ (7 - r) % 2 < 2 ^ (r + 1 + 1)
    have m0 := Int.emod_nonneg (s / 2 ^ (7 - r)) (show (2 : Int) ≠ 0 by decide)
    have m1 := Int.emod_lt_of_pos (s / 2 ^ (7 - r)) (show (0 : Int) < 2 by decide)
    rw [Int.pow_succ, Int.pow_succ]
    rw [Int.pow_succ] at b
    omega
theorem midP_8 {s : Int} (h : 0 ≤ s ∧ s ≤ 255) : 2 * midP s 7 + s / 2 ^ 0 % 2 - 256 = s := by
  simp only [midP]
  omega
theorem bits8_get (s : Int) {r : Nat} (h : r < 8) : (bits8 s)[r]? = some (s / 2 ^ (7 - r) % 2) := by
  unfold bits8
  rw [List.getElem?_map, List.getElem?_range h]
  show some (s / 2 ^ (7 - (r : Int)).toNat % 2) = _
  congr 4
  omega
theorem pow2_le {a b : Nat} (h : a ≤ b) : (2 : Int) ^ a ≤ 2 ^ b := by
  have c : ∀ k : Nat, (2 : Int) ^ k = ((2 ^ k : Nat) : Int) := fun k => by simp
  rw [c, c]
  exact Int.ofNat_le.mpr (Nat.pow_le_pow_right (by decide) h)
theorem go_mid {e : List Int} (s : Int) : ∀ r : Nat, r ≤ 7 → goF (e, 0) (1 :: (bits8 s).take r) = (e, midP s r)
  | 0, _ => by
    show goS (e, 0) 1 = (e, 1)
    unfold goS goE goP
    rw [if_neg (show ¬ (0 : Int) > 0 by decide), if_pos rfl, if_neg (show ¬ (0 : Int) > 0 by decide), if_pos rfl]
  | r + 1, h => by
    have ih := go_mid (e := e) s r (by omega)
    rw [List.take_add_one, bits8_get s (by omega), ← List.cons_append, goF_app, ih]
    obtain ⟨a, b⟩ := midP_ok s (r + 1)
    obtain ⟨c, _⟩ := midP_ok s r
    have p := pow2_le (a := 0) (b := r) (by omega)
    have q := pow2_le (a := r + 1 + 1) (b := 8) (by omega)
    show goS (e, midP s r) (s / 2 ^ (7 - r) % 2) = (e, midP s (r + 1))
    have nx : midP s (r + 1) = 2 * midP s r + s / 2 ^ (7 - r) % 2 := rfl
    rw [go_one (by omega) (by omega), nx]
theorem go_nine {e : List Int} {s : Int} (h : 0 ≤ s ∧ s ≤ 255) : goF (e, 0) (nine s) = (e ++ [s], 0) := by
  have g := go_mid (e := e) s 7 (Nat.le_refl _)
  have l8 : (bits8 s).length = 8 := by unfold bits8; rw [List.length_map, List.length_range]
  have e8 : bits8 s = (bits8 s).take 7 ++ [s / 2 ^ 0 % 2] := by
    have t := List.take_add_one (l := bits8 s) (i := 7)
    rw [bits8_get s (by omega), List.take_of_length_le (by omega)] at t
    exact t
  unfold nine
  rw [e8, ← List.cons_append, goF_app, g]
  obtain ⟨a, b⟩ := midP_ok s 7
  have m0 := Int.emod_nonneg (s / 2 ^ 0) (show (2 : Int) ≠ 0 by decide)
  show goS (e, midP s 7) (s / 2 ^ 0 % 2) = (e ++ [s], 0)
  have p : (2 : Int) ^ 7 = 128 := by decide
  rw [go_end (by omega) (by omega), midP_8 h]
theorem go_signs {e : List Int} : ∀ {ns : List Int}, (∀ z ∈ ns, 0 ≤ z ∧ z ≤ 255) → goF (e, 0) (ns.flatMap nine) = (e ++ ns, 0)
  | [], _ => by simp [goF]
  | s :: ns, h => by
    rw [List.flatMap_cons, goF_app, go_nine (h s List.mem_cons_self), go_signs fun z hz => h z (List.mem_cons_of_mem _ hz), List.append_assoc]
    rfl
theorem go_dec {e : List Int} {ns : List Int} (h : ∀ z ∈ ns, 0 ≤ z ∧ z ≤ 255) : goF (e, 0) (decOf ns) = ([], 0) := by
  unfold decOf
  rw [goF_app, go_signs h]
  show goS (e ++ ns, 0) 0 = ([], 0)
  unfold goS goE goP
  rw [if_neg (show ¬ (0 : Int) > 0 by decide), if_neg (show ¬ (0 : Int) = 1 by decide), if_neg (show ¬ (0 : Int) > 0 by decide), if_neg (show ¬ (0 : Int) = 1 by decide)]
theorem go_dB {ts : List (List Int)} (h : TsOk ts) : goF ([], 0) (dB ts) = ([], 0) := by
  have key : ∀ ts : List (List Int), (∀ t ∈ ts, TextOk 1000 t) → goF ([], 0) (dB ts) = ([], 0) := by
    intro ts
    induction ts with
    | nil => intro _; rfl
    | cons t ts ih =>
      intro h
      have e : dB (t :: ts) = decOf t ++ dB ts := rfl
      rw [e, goF_app, go_dec (h t List.mem_cons_self).all]
      exact ih fun u hu => h u (List.mem_cons_of_mem _ hu)
  exact key ts h.all
/-- behind the first j decisions of a text -/
theorem go_at {ns : List Int} (h : ∀ z ∈ ns, 0 ≤ z ∧ z ≤ 255) {j : Nat} (hj : j < (decOf ns).length) : (j % 9 = 0 ∧ goF ([], 0) ((decOf ns).take j) = (ns.take (j / 9), 0) ∧ (decOf ns)[j]? = some (if j / 9 < ns.length then 1 else 0)) ∨
    (j % 9 ≠ 0 ∧ ∃ e p, goF ([], 0) ((decOf ns).take j) = (e, p) ∧ 0 < p) := by
  rw [dec_len] at hj
  have base : ∀ i, i ≤ ns.length → (decOf ns).take (9 * i) = (ns.take i).flatMap nine := fun i hi => by
    unfold decOf
    rw [List.take_append_of_le_length (by rw [flat_len nine_len]; omega)]
    have e : ns.flatMap nine = (ns.take i).flatMap nine ++ (ns.drop i).flatMap nine := by rw [← List.flatMap_append, List.take_append_drop]
    rw [e, List.take_append_of_le_length (by rw [flat_len nine_len, List.length_take]; omega), List.take_of_length_le (by rw [flat_len nine_len, List.length_take]; omega)]
  have hi : j / 9 ≤ ns.length := by omega
  have g0 : goF ([], 0) ((decOf ns).take (9 * (j / 9))) = (ns.take (j / 9), 0) := by
    rw [base _ hi, go_signs fun z hz => h z (List.mem_of_mem_take hz)]
    rfl
  by_cases z : j % 9 = 0
  · have ej : j = 9 * (j / 9) := by omega
    refine .inl ⟨z, by rw [← g0, ← ej], ?_⟩
    by_cases c : j / 9 < ns.length
    · rw [if_pos c]
      have hz : ns[j / 9]? = some ns[j / 9] := List.getElem?_eq_getElem c
      have := (dec_at hz).1
      rwa [← ej] at this
    · rw [if_neg c]
      have el : j = (ns.flatMap nine).length := by rw [flat_len nine_len]; omega
      unfold decOf
      rw [el]
      simp
  · have c : j / 9 < ns.length := by omega
    have hz : ns[j / 9]? = some ns[j / 9] := List.getElem?_eq_getElem c
    refine .inr ⟨z, ns.take (j / 9), midP ns[j / 9] (j % 9 - 1), ?_, ?_⟩
    · have ej : j = 9 * (j / 9) + j % 9 := by omega
      have et : (decOf ns).take j = (decOf ns).take (9 * (j / 9)) ++ ((decOf ns).drop (9 * (j / 9))).take (j % 9) := by
        conv => lhs; rw [ej]
        rw [List.take_add]
      rw [et, goF_app, g0, dec_drop hz]
      have er : j % 9 = (j % 9 - 1) + 1 := by omega
      rw [er, List.take_succ_cons, List.take_append_of_le_length (by unfold bits8; rw [List.length_map, List.length_range]; omega)]
      exact go_mid _ _ (by omega)
    · obtain ⟨a, _⟩ := midP_ok ns[j / 9] (j % 9 - 1)
      have := pow2_le (a := 0) (b := j % 9 - 1) (by omega)
      have : (2 : Int) ^ 0 = 1 := rfl
      omega
/-! ### pressed -/
theorem toldF_ok {ks : List Lk} {b0 bs : List Int} (ok : LksOk ks) (h0 : Bits b0) (hb : Bits bs) : StepsOk (toldF ks b0 bs) := ⟨fun p hp => by
  obtain ⟨i, hi, e⟩ := List.mem_iff_getElem.mp hp
  have hi' : i < bs.length := by rw [toldF_len] at hi; exact hi
  have hz := toldF_at (ks := ks) (b0 := b0) (List.getElem?_eq_getElem hi')
  rw [List.getElem?_eq_getElem hi, e] at hz
  cases hz
  exact ⟨(fokF ok (h0.app (hb.take i))).chance, hb _ (List.getElem_mem hi')⟩⟩
abbrev e0 : Ends3 := (0, 1099511627776, 5)
def pressF (ks : List Lk) (b0 ns : List Int) : List Int := tell (narL e0 (toldF ks b0 (decOf ns)))
theorem pressW {ks : List Lk} {b0 ns : List Int} (ok : LksOk ks) (h0 : Bits b0) : WSp (9 * ns.length + 1) (narL e0 (toldF ks b0 (decOf ns))) := by
  have w := narL_ok (toldF_ok ok h0 dec_bits) wsp0' (n := 0) (e := e0) (ps := toldF ks b0 (decOf ns))
  rw [toldF_len, dec_len, Nat.zero_add] at w
  exact w
theorem pressF_byt (ks : List Lk) (b0 ns : List Int) : Byts (pressF ks b0 ns) := byt_ok _ _
theorem pressF_len {ks : List Lk} {b0 ns : List Int} (ok : LksOk ks) (h0 : Bits b0) : (pressF ks b0 ns).length ≤ 45 * ns.length + 10 := by
  have w := pressW (ns := ns) ok h0
  have := w.si2
  have := w.si
  unfold pressF tell
  rw [byt_len]
  omega
/-! a seeker made, asked -/
section
variable {K : PySem.W.Frag}
theorem seek_one {a dx r sp sdx : Addr} {d : List Int} {e : Ends3} {t : Nat} {H : Hp} {m : Str} {spc : Sp} {A : Sp → Prop} (M : SeekAt K H a dx r sp sdx d e t) (hm : List.lookup m (seekF r sp d t) = none) (q : A spc) : mthK m (one (He.ga K "Seeker") spc) (.ref a) H A := g_one M.ins hm q
theorem seeker_new {H : Hp} {h a dx : Addr} {ds : List Int} {Q : Hp → Prop} {E : XK} (eh : H h = some (.lst (ds.map V.int))) (dB : Byts ds) (dL : ds.length ≤ 12000) (na : H a = none) (ndx : H dx = none) (nad : dx ≠ a)
    (q : ∀ r sp sdx H', Same H H' → H sp = none → SeekAt K H' a dx r sp sdx ds (0, 1099511627776, 5) 5 → Q H') : F_Seeker_init K (.ref a) (.ref h) (upd (upd H dx (.own a)) a (.ins (He.ga K "Seeker") dx [])) (fun v H2 => v = .non ∧ Q H2) E := by
  have S0 : Same H (upd (upd H dx (.own a)) a (.ins (He.ga K "Seeker") dx [])) := same_mut (same_mut (Same.refl H) ndx) na
  have eh' := S0 _ _ eh
  refine ⟨a, dx, true, rfl, upd_same, SgT.of eh' ⟨dL, dB⟩ (by decide), (fun z => nomatch z), fun _ b ns' hb hbb T r sp sdx H7 nr nsp s7 M => ⟨rfl, ?_⟩⟩
  cases hb
  have : ds = ns' := List.map_inj_right (f := V.int) (fun x y h => V.int.inj h) |>.mp (HO.lst.inj (Option.some.inj (eh'.symm.trans hbb)))
  subst this
  exact q r sp sdx H7 (SameX.back1 S0 s7 na) (upd_none (upd_none nsp)) M
theorem seeker_new2 {H : Hp} {h a dx : Addr} {ds : List Int} {Q : Hp → Prop} {E : XK} (eh : H h = some (.lst (ds.map V.int))) (dB : Byts ds) (dL : ds.length ≤ 12000) (na : H a = none) (ndx : H dx = none) (nad : dx ≠ a)
    (q : ∀ r sp sdx H', Same H H' → H r = none → H sp = none → SeekAt K H' a dx r sp sdx ds (0, 1099511627776, 5) 5 → Q H') : F_Seeker_init K (.ref a) (.ref h) (upd (upd H dx (.own a)) a (.ins (He.ga K "Seeker") dx [])) (fun v H2 => v = .non ∧ Q H2) E := by
  have S0 : Same H (upd (upd H dx (.own a)) a (.ins (He.ga K "Seeker") dx [])) := same_mut (same_mut (Same.refl H) ndx) na
  have eh' := S0 _ _ eh
  refine ⟨a, dx, true, rfl, upd_same, SgT.of eh' ⟨dL, dB⟩ (by decide), (fun z => nomatch z), fun _ b ns' hb hbb T r sp sdx H7 nr nsp s7 M => ⟨rfl, ?_⟩⟩
  cases hb
  have : ds = ns' := List.map_inj_right (f := V.int) (fun x y h => V.int.inj h) |>.mp (HO.lst.inj (Option.some.inj (eh'.symm.trans hbb)))
  subst this
  exact q r sp sdx H7 (SameX.back1 S0 s7 na) (upd_none (upd_none nr)) (upd_none (upd_none nsp)) M
theorem g_dnewK {σ : St} {H : Hp} {Q : VK} (q : ∀ p, H p = none → Q (.ref p) (upd H p (.dK []))) : tDNewK σ H Q := q
theorem SgT.no {m : Nat} {H : Hp} {a : Addr} {xs : List V} (e : H a = some (.lst xs)) (l : xs.length ≤ 1000000) (t : ∀ v ∈ xs, TyW K H v) (hb : (decide (xs.length ≤ m) && xs.all (btw 0 255)) = false) : SgT K H m (.ref a) false := hb ▸ SgT.lst e l t
/-- the same chances, its own bits -/
def seekR (d : List Int) (e : Ends3) (cs : List Int) : Ends3 := cs.foldl (fun e c => nar e c (bitOf d e c)) e
theorem seekR_take {d : List Int} {e : Ends3} {cs : List Int} {i : Nat} {c : Int} (h : cs[i]? = some c) : seekR d e (cs.take (i + 1)) = nar (seekR d e (cs.take i)) c (bitOf d (seekR d e (cs.take i)) c) := by
  unfold seekR
  rw [List.take_add_one, h, List.foldl_append]
  rfl
theorem seekR_ok {d : List Int} {cs : List Int} : ∀ {n : Nat} {e : Ends3}, (∀ c ∈ cs, 32768 ≤ c ∧ c ≤ 16744448) → WSp n e → WSp (n + cs.length) (seekR d e cs) := by
  induction cs with
  | nil => intro n e _ w; exact w
  | cons c cs ih =>
    intro n e h w
    have c1 := h c List.mem_cons_self
    have := ih (n := n + 1) (e := nar e c (bitOf d e c)) (fun q hq => h q (List.mem_cons_of_mem _ hq)) (nar_ok w c1.1 c1.2)
    have e1 : n + (c :: cs).length = n + 1 + cs.length := by rw [List.length_cons]; omega
    rw [e1]
    exact this
end
/-! pressing a text, reading it -/
section
variable (K : PySem.W.Frag) [HasCls K "Span"] [HasNo K "Span" "low"] [HasNo K "Span" "width"] [HasNo K "Span" "size"]
def F_press_by (K : PySem.W.Frag) : V → V → Hp → VK → XK → Prop := fun x y H Q _ => ∃ (a ta : Addr) (Fp : Addr → Prop) (ks : List Lk) (b0 ns : List Int), x = .ref a ∧ y = .ref ta ∧ ForAt K H a Fp ks b0 ∧ LksOk ks ∧ Bits b0 ∧ b0.length ≤ 700000 ∧ H ta = some (.lst (ns.map V.int)) ∧ TextOk 1000 ns ∧
  ∀ r Fp' H', H r = none → SameX Fp H H' → (∀ x, Fp' x → Fp x ∨ H x = none) → ForAt K H' a Fp' ks (b0 ++ decOf ns) → H' r = some (.lst ((pressF ks b0 ns).map V.int)) → ¬ Fp' r → Q (.ref r) H'
abbrev sp_press_by (K : PySem.W.Frag) : Sp := on2 (F_press_by K)
def t_press_by (K : PySem.W.Frag) (E : XK) : TS :=
  tSeq (tAsg (tNew (He.ga K "Span") (sp_Span_init K) [] (fun _ => E) (tNil)) (gName 2))
  (tSeq (tFor (iList K (tFun (sp_decisions_of K) [] (fun _ => E) (tCons (tVar 1) (tNil)))) (gName 3) (tSeq (tDrop (tMth "narrow" (one (He.ga K "Span") (sp_Span_narrow K)) (fun _ => E) (tVar 2) (tCons (tMth "chance" (one (He.ga K "Foreteller") (sp_Foreteller_chance K)) (fun _ => E) (tVar 0) (tNil)) (tCons (tVar 3) (tNil)))))
  (tDrop (tMth "see" (one (He.ga K "Foreteller") (sp_Foreteller_see K)) (fun _ => E) (tVar 0) (tCons (tVar 3) (tNil))))))
  (tRet (tMth "told" (one (He.ga K "Span") (sp_Span_told K)) (fun _ => E) (tVar 2) (tNil))))
theorem pure_press_by {x y : V} {H : Hp} {Q : VK} {E : XK} (h : F_press_by K x y H Q E) : t_press_by K E ⟨fun _ H' => Q .non H', Q, fun _ _ => False, fun _ _ => False⟩ [some x, some y, none, none] H := by
  obtain ⟨a, ta, Fp, ks, b0, ns, rfl, rfl, A, ok, hb0, hn, hta, tok, q⟩ := h
  unfold t_press_by
  walk_at "go"
  intro s0 ds0 ns0 nds0 nd0
  walk_at "go"
  refine ⟨s0, ds0, rfl, upd_same, rfl, ?_⟩
  rw [upd_upd]
  have n0 : upd H ds0 (.own s0) s0 = none := by rw [upd_ne nd0.symm]; exact ns0
  have S := same_new (u := .ins (He.ga K "Span") ds0 (spanF e0)) (same_new (u := .own s0) (Same.refl H) nds0) n0
  have es : (upd (upd H ds0 (.own s0)) s0 (.ins (He.ga K "Span") ds0 (spanF e0))) s0 = some (.ins (He.ga K "Span") ds0 (spanF e0)) := upd_same
  generalize upd (upd H ds0 (.own s0)) s0 (.ins (He.ga K "Span") ds0 (spanF e0)) = H1 at S es
  have nF : ∀ {x : Addr}, H x = none → ¬ Fp x := fun hx z => by
    obtain ⟨o, ho, _⟩ := A.dom _ z
    rw [hx] at ho
    cases ho
  walk_at "go"
  refine dec_of (S _ _ hta) tok fun c H2 nc s2 ec => ?_
  have ncH : H c = none := S.free nc
  have nsc : c ≠ s0 := fun z => by rw [z, es] at nc; cases nc
  have es := s2 _ _ es
  have S := Same.trans S s2
  have A2 := A.same S
  have db : Bits (decOf ns) := dec_bits (ns := ns)
  have dl := dec_len ns
  have nl9 := tok.len
  have zok := toldF_ok (ks := ks) ok hb0 db
  unfold pressF at q
  generalize decOf ns = ds at ec db q dl zok
  clear s2 n0 nds0 nd0 nc
  refine for_LI (sq_of ec) (fun j σ H6 => ∃ u Fp', σ = [some (.ref a), some (.ref ta), some (.ref s0), u] ∧ SameX Fp H H6 ∧ (∀ x, Fp' x → Fp x ∨ H x = none) ∧ ForAt K H6 a Fp' ks (b0 ++ ds.take j) ∧ H6 c = some (.lst (ds.map V.int)) ∧ ¬ Fp' c ∧ H6 s0 = some (.ins (He.ga K "Span") ds0 (spanF (narL e0 ((toldF ks b0 ds).take j)))) ∧ ¬ Fp' s0) ?_ ?_ ?_ ?_
  · exact ⟨_, Fp, rfl, SameX.of S, fun x hx => .inl hx, by rw [List.take_zero, List.append_nil]; exact A2, ec, nF ncH, es, nF ns0⟩
  · rintro j σ H6 ⟨u, Fp', rfl, -, -, -, e, -⟩
    exact sq_of e
  · clear es ec A2 S
    rintro j b σ H6 hb ⟨u, Fp', rfl, S, g, A6, ec, nFc, es, nFs⟩
    have hj := (List.getElem?_eq_some_iff.mp hb).1
    have hbits : Bits (b0 ++ ds.take j) := hb0.app (db.take j)
    have nx := toldF_at (ks := ks) (b0 := b0) hb
    have b01 := db b (List.mem_of_getElem? hb)
    have w := narL_ok (zok.take j) wsp0' (n := 0) (e := e0)
    have wl : ((toldF ks b0 ds).take j).length ≤ 9001 := by rw [List.length_take, toldF_len]; omega
    have c1 := (zok.all _ (List.mem_of_getElem? nx)).1
    walk_at "go"
    refine fore_one A6 (fun _ _ _ _ _ _ => rfl) ?_
    walk_at "go"
    refine ⟨a, Fp', ks, _, rfl, A6, ok, hbits, fun H7 s7 => ?_⟩
    have ec := s7 _ _ ec
    have es := s7 _ _ es
    have A6 := A6.same s7
    have S := S.trans (SameX.of s7)
    clear s7
    have nz := narL_take nx e0
    generalize chanceF ks (stF ks (b0 ++ ds.take j)) = ch at nx nz c1
    walk_at "go"
    refine narrow_of K es w (by omega) c1 b01 ?_
    have nz : narL e0 ((toldF ks b0 ds).take (j + 1)) = nar (narL e0 ((toldF ks b0 ds).take j)) ch b := nz
    rw [← nz]
    have XS : SameX (· = s0) H7 (upd H7 s0 (.ins (He.ga K "Span") ds0 (spanF (narL e0 ((toldF ks b0 ds).take (j + 1)))))) := (SameX.refl (M := (· = s0)) H7).mut rfl
    have A7 := A6.keep XS (fun x hx y => nFs (by rw [← y]; exact hx)) fun x xs hx => ne_kind hx es (by intro z; cases z)
    have S := S.newmut (o := .ins (He.ga K "Span") ds0 (spanF (narL e0 ((toldF ks b0 ds).take (j + 1))))) ns0
    have ec := lk_mut (u := .ins (He.ga K "Span") ds0 (spanF (narL e0 ((toldF ks b0 ds).take (j + 1))))) nsc ec
    have es : (upd H7 s0 (.ins (He.ga K "Span") ds0 (spanF (narL e0 ((toldF ks b0 ds).take (j + 1)))))) s0 = some (.ins (He.ga K "Span") ds0 (spanF (narL e0 ((toldF ks b0 ds).take (j + 1))))) := upd_same
    generalize upd H7 s0 (.ins (He.ga K "Span") ds0 (spanF (narL e0 ((toldF ks b0 ds).take (j + 1))))) = H8 at A7 S ec es
    clear XS A6
    walk_at "go"
    refine fore_one A7 (fun _ _ _ _ _ _ => rfl) ?_
    walk_at "go"
    refine see_of A7 ok hbits (by rw [List.length_append, List.length_take]; omega) b01 fun Fp2 H9 s9 g9 A9 => ?_
    walk_at "go"
    refine ⟨_, Fp2, rfl, S.grow s9 g, fun x hx => ?_, by rw [take_snoc' hb, ← List.append_assoc]; exact A9, s9.kp _ _ nFc ec, fun hx => ?_, s9.kp _ _ nFs es, fun hx => ?_⟩
    · rcases g9 x hx with y | y
      · exact g x y
      · exact .inr (S.dm _ y)
    · rcases g9 _ hx with y | y
      · exact nFc y
      · rw [ec] at y; cases y
    · rcases g9 _ hx with y | y
      · exact nFs y
      · rw [es] at y; cases y
  · clear es ec A2 S
    rintro σ H6 ⟨u, Fp', rfl, S, g, A6, ec, nFc, es, nFs⟩
    rw [List.take_length] at A6
    rw [List.take_of_length_le (by rw [toldF_len]; exact Nat.le_refl _)] at es
    have w := narL_ok zok wsp0' (n := 0) (e := e0)
    rw [toldF_len] at w
    walk_at "go"
    refine ⟨s0, ds0, _, _, rfl, es, w, by omega, fun r H7 nr s7 er => ?_⟩
    exact q r Fp' H7 (S.dm _ nr) (S.trans (SameX.of s7)) g (A6.same s7) er fun z => by
      obtain ⟨o, ho, _⟩ := A6.dom _ z
      rw [nr] at ho
      cases ho
end
section
variable (K : PySem.W.Frag) [HasTup K "KINDS" [.str "even", .str "quick", .str "run"]]
def F_pressed (K : PySem.W.Frag) : V → V → V → Hp → VK → XK → Prop := fun x y z H Q E => (∃ ks ns ts, Asks K x y z H ks ns ts ∧ ∀ r H', H r = none → Same H H' → H' r = some (.lst ((pressF ks (dB ts) ns).map V.int)) → Q (.ref r) H') ∨ Bads K x y z H E
abbrev sp_pressed (K : PySem.W.Frag) : Sp := on3 (F_pressed K)
def F_checked_most (K : PySem.W.Frag) : V → Hp → VK → XK → Prop := fun x H Q E => TyW K H x ∧ (btw 0 1000 x = true → Q x H) ∧ (btw 0 1000 x = false → E (.ref (He.ga K "NoMost")) none H)
abbrev sp_checked_most (K : PySem.W.Frag) : Sp := on1 (F_checked_most K)
def t_checked_most (K : PySem.W.Frag) (E : XK) : TS :=
  tSeq (tIfS (tOr (tNot (tTru K (tFun (sp_is_whole K) [] (fun _ => E) (tCons (tVar 0) (tNil))))) (tNot (tTest (tChain (rLe) (rLe) (tC (.int 0)) (tVar 0) (tC (.int 1000)))))) (tRz (fun cls d _ H => E cls d H) (He.ga K "NoMost")) (tNext))
  (tRet (tVar 0))
theorem pure_checked_most {x : V} {H : Hp} {Q : VK} {E : XK} (h : F_checked_most K x H Q E) : t_checked_most K E ⟨fun _ H' => Q .non H', Q, fun _ _ => False, fun _ _ => False⟩ [some x] H := by
  obtain ⟨ty, q, r⟩ := h
  unfold t_checked_most
  walk_at "go"
  refine ⟨ty, ?_⟩
  rcases ty.cases with ⟨i, rfl⟩ | ⟨e1, e2⟩
  · refine ⟨true, rfl, ?_⟩
    walk_at "go"
    refine dif (fun h1 => ?_) fun h1 => ?_
    · walk_at "go"
      refine difN (fun h2 => ?_) fun h2 => ?_
      · walk_at "go"
        exact r (by rw [btw, decide_eq_false h2, Bool.and_false])
      · walk_at "go"
        exact q (by rw [btw, decide_eq_true h1, decide_eq_true h2]; rfl)
    · walk_at "go"
      exact r (by rw [btw, decide_eq_false h1, Bool.false_and])
  · rw [e1]
    refine g_truB ?_
    walk_at "go"
    exact r (e2 _ _)
theorem most_of {m : Nat} {H : Hp} {Q : VK} {E : XK} (hm : m ≤ 1000) (q : Q (.int m) H) : F_checked_most K (.int m) H Q E :=
  ⟨.int, fun _ => q, fun z => by rw [btw, decide_eq_true (by omega), decide_eq_true (by omega)] at z; cases z⟩
end
/-! bytes read, the plain part: the bits that bytes lead to, whatever they are -/
theorem toldF_snoc (ks : List Lk) (b0 bs : List Int) (b : Int) : toldF ks b0 (bs ++ [b]) = toldF ks b0 bs ++ [(chanceF ks (stF ks (b0 ++ bs)), b)] := by
  apply List.ext_getElem?
  intro i
  rcases Nat.lt_trichotomy i bs.length with h | h | h
  · have e : bs[i]? = some bs[i] := List.getElem?_eq_getElem h
    have e2 : (bs ++ [b])[i]? = some bs[i] := by rw [List.getElem?_append_left h, e]
    rw [toldF_at e2, List.getElem?_append_left (by rw [toldF_len]; exact h), toldF_at e, List.take_append_of_le_length (by omega)]
  · subst h
    have e2 : (bs ++ [b])[bs.length]? = some b := by simp
    rw [toldF_at e2, List.getElem?_append_right (by rw [toldF_len]; exact Nat.le_refl _), toldF_len, Nat.sub_self, List.take_left]
    rfl
  · rw [List.getElem?_eq_none (by rw [toldF_len, List.length_append, List.length_singleton]; omega), List.getElem?_eq_none (by rw [List.length_append, toldF_len, List.length_singleton]; omega)]
theorem toldF_take (ks : List Lk) (b0 bs : List Int) (j : Nat) : (toldF ks b0 bs).take j = toldF ks b0 (bs.take j) := by
  apply List.ext_getElem?
  intro i
  rw [List.getElem?_take]
  by_cases h : i < j
  · rw [if_pos h]
    by_cases h2 : i < bs.length
    · have e : bs[i]? = some bs[i] := List.getElem?_eq_getElem h2
      have e2 : (bs.take j)[i]? = some bs[i] := by rw [List.getElem?_take, if_pos h, e]
      rw [toldF_at e, toldF_at e2, List.take_take, Nat.min_eq_left (by omega)]
    · rw [List.getElem?_eq_none (by rw [toldF_len]; omega), List.getElem?_eq_none (by rw [toldF_len, List.length_take]; omega)]
  · rw [if_neg h, List.getElem?_eq_none (by rw [toldF_len, List.length_take]; omega)]
/-- the bit that the bytes d give behind the bits bs -/
def bitF (ks : List Lk) (b0 d bs : List Int) : Int := bitOf d (narL e0 (toldF ks b0 bs)) (chanceF ks (stF ks (b0 ++ bs)))
def skF (ks : List Lk) (b0 d : List Int) : Nat → List Int
  | 0 => []
  | j + 1 => skF ks b0 d j ++ [bitF ks b0 d (skF ks b0 d j)]
theorem bitF_01 (ks : List Lk) (b0 d bs : List Int) : 0 ≤ bitF ks b0 d bs ∧ bitF ks b0 d bs ≤ 1 := by
  unfold bitF bitOf
  split <;> decide
theorem skF_len (ks : List Lk) (b0 d : List Int) : ∀ j, (skF ks b0 d j).length = j
  | 0 => rfl
  | j + 1 => by rw [skF, List.length_append, skF_len ks b0 d j]; rfl
theorem skF_bits (ks : List Lk) (b0 d : List Int) : ∀ j, Bits (skF ks b0 d j)
  | 0 => fun z h => nomatch h
  | j + 1 => (skF_bits ks b0 d j).app fun z h => by
    rw [List.mem_singleton.mp h]
    exact bitF_01 ..
theorem skF_pre (ks : List Lk) (b0 d : List Int) {i : Nat} : ∀ {j : Nat}, i ≤ j → skF ks b0 d i <+: skF ks b0 d j
  | 0, h => by
    have : i = 0 := by omega
    subst this
    exact List.prefix_refl _
  | j + 1, h => by
    by_cases e : i = j + 1
    · subst e
      exact List.prefix_refl _
    · exact (skF_pre ks b0 d (by omega)).trans (List.prefix_append _ _)
/-- bytes that begin with a text's give its decisions -/
theorem skF_text {ks : List Lk} {b0 ns ex : List Int} (ok : LksOk ks) (h0 : Bits b0) (hx : Byts ex) : ∀ {j : Nat}, j ≤ (decOf ns).length → skF ks b0 (pressF ks b0 ns ++ ex) j = (decOf ns).take j
  | 0, _ => by rw [List.take_zero]; rfl
  | j + 1, h => by
    have ih := skF_text (ns := ns) ok h0 hx (j := j) (by omega)
    have W : Within (pressF ks b0 ns ++ ex) (narL e0 (toldF ks b0 (decOf ns))) := within_tell (pressW ok h0) hx
    have dB' : Byts (pressF ks b0 ns ++ ex) := fun z hz => (List.mem_append.mp hz).elim (pressF_byt _ _ _ z) (hx z)
    have hb : (decOf ns)[j]? = some (decOf ns)[j] := List.getElem?_eq_getElem h
    have tb := told_bit dB' (toldF_ok ok h0 dec_bits) wsp0' W (toldF_at (ks := ks) (b0 := b0) hb)
    rw [toldF_take] at tb
    rw [skF, ih, take_snoc' hb]
    show _ ++ [bitF _ _ _ _] = _
    unfold bitF
    rw [show (decOf ns)[j] = bitOf (pressF ks b0 ns ++ ex) (narL e0 (toldF ks b0 ((decOf ns).take j))) (chanceF ks (stF ks (b0 ++ (decOf ns).take j))) from tb.symm]
/-! ### decisions on the way -/
theorem bits8_val {q : List Int} (l : q.length = 8) (b : Bits q) : bits8 (valB q) = q ∧ 0 ≤ valB q ∧ valB q ≤ 255 := by
  match q, l with
  | [a, b1, c, d, e, f, g, h], _ =>
    have k : ∀ z ∈ [a, b1, c, d, e, f, g, h], 0 ≤ z ∧ z ≤ 1 := b
    simp only [List.mem_cons, List.not_mem_nil, or_false, forall_eq_or_imp, forall_eq] at k
    obtain ⟨k1, k2, k3, k4, k5, k6, k7, k8⟩ := k
    have e : valB [a, b1, c, d, e, f, g, h] = 128 * a + 64 * b1 + 32 * c + 16 * d + 8 * e + 4 * f + 2 * g + h := by
      simp only [valB, List.foldl_cons, List.foldl_nil]
      omega
    rw [e]
    refine ⟨?_, by omega, by omega⟩
    rw [bits8_is]
    have : ∀ {x y : Int} {xs ys : List Int}, x = y → xs = ys → x :: xs = y :: ys := fun h1 h2 => by rw [h1, h2]
    refine this (by omega) (this (by omega) (this (by omega) (this (by omega) (this (by omega) (this (by omega) (this (by omega) (this (by omega) rfl)))))))
/-- the place behind the first bits of a sign -/
def pOf (q : List Int) : Int := q.foldl (fun p b => 2 * p + b) 1
theorem pOf_snoc (q : List Int) (b : Int) : pOf (q ++ [b]) = 2 * pOf q + b := by unfold pOf; rw [List.foldl_append]; rfl
theorem pOf_val : ∀ (q : List Int), pOf q = 2 ^ q.length + valB q := by
  have key : ∀ (n : Nat) (q : List Int), q.length = n → pOf q = 2 ^ q.length + valB q := by
    intro n
    induction n with
    | zero =>
      intro q h
      rw [List.length_eq_zero_iff.mp h]
      rfl
    | succ n ih =>
      intro q h
      have hne : q ≠ [] := fun z => by rw [z] at h; cases h
      have e := List.dropLast_concat_getLast hne
      have k : q.dropLast.length = n := by rw [List.length_dropLast, h]; rfl
      have i := ih q.dropLast k
      rw [← e, pOf_snoc, i, List.length_append, List.length_singleton, Int.pow_succ]
      have v : valB (q.dropLast ++ [q.getLast hne]) = 2 * valB q.dropLast + q.getLast hne := by unfold valB; rw [List.foldl_append]; rfl
      rw [v]
      omega
  exact fun q => key _ q rfl
theorem valB_lt {q : List Int} (b : Bits q) : 0 ≤ valB q ∧ valB q < 2 ^ q.length := by
  have key : ∀ (n : Nat) (q : List Int), q.length = n → Bits q → 0 ≤ valB q ∧ valB q < 2 ^ q.length := by
    intro n
    induction n with
    | zero =>
      intro q h _
      rw [List.length_eq_zero_iff.mp h]
      decide
    | succ n ih =>
      intro q h b
      have hne : q ≠ [] := fun z => by rw [z] at h; cases h
      have e := List.dropLast_concat_getLast hne
      have k : q.dropLast.length = n := by rw [List.length_dropLast, h]; rfl
      obtain ⟨i1, i2⟩ := ih q.dropLast k fun z hz => b z (List.dropLast_subset _ hz)
      have lb := b _ (List.getLast_mem hne)
      have v : valB (q.dropLast ++ [q.getLast hne]) = 2 * valB q.dropLast + q.getLast hne := by unfold valB; rw [List.foldl_append]; rfl
      rw [← e, v, List.length_append, List.length_singleton, Int.pow_succ]
      omega
  exact key _ q rfl b
/-- bs: the decisions so far; en the signs ended, p the place -/
inductive At (bs : List Int) : List Int → Int → Prop
  | ahead {en : List Int} (h : bs = en.flatMap nine) (ok : ∀ z ∈ en, 0 ≤ z ∧ z ≤ 255) : At bs en 0
  | amid {en q : List Int} (h : bs = en.flatMap nine ++ 1 :: q) (ok : ∀ z ∈ en, 0 ≤ z ∧ z ≤ 255) (l : q.length ≤ 7) (b : Bits q) : At bs en (pOf q)
theorem At.ok {bs en : List Int} {p : Int} (h : At bs en p) : ∀ z ∈ en, 0 ≤ z ∧ z ≤ 255 := by
  cases h with
  | ahead _ ok => exact ok
  | amid _ ok _ _ => exact ok
theorem At.len {bs en : List Int} {p : Int} (h : At bs en p) : 9 * en.length ≤ bs.length ∧ bs.length ≤ 9 * en.length + 8 := by
  cases h with
  | ahead h _ => rw [h, flat_len nine_len]; omega
  | amid h _ l _ => rw [h, List.length_append, flat_len nine_len, List.length_cons]; omega
theorem pOf_pos {q : List Int} (b : Bits q) : 0 < pOf q ∧ (q.length ≤ 7 → pOf q ≤ 255) := by
  rw [pOf_val]
  obtain ⟨h1, h2⟩ := valB_lt b
  refine ⟨by
    have : (0 : Int) < 2 ^ q.length := Int.pow_pos (by decide)
    omega, fun h => ?_⟩
  have : (2 : Int) ^ q.length ≤ 2 ^ 7 := pow2_le h
  have e : (2 : Int) ^ 7 = 128 := by decide
  omega
theorem At.start : At [] [] 0 := .ahead rfl fun z h => nomatch h
theorem go_amid {en : List Int} : ∀ {q : List Int}, q.length ≤ 7 → Bits q → goF (en, 0) (1 :: q) = (en, pOf q) := by
  have key : ∀ (n : Nat) (q : List Int), q.length = n → q.length ≤ 7 → Bits q → goF (en, 0) (1 :: q) = (en, pOf q) := by
    intro n
    induction n with
    | zero =>
      intro q h _ _
      rw [List.length_eq_zero_iff.mp h]
      show goS (en, 0) 1 = (en, 1)
      unfold goS goE goP
      rw [if_neg (show ¬ (0 : Int) > 0 by decide), if_pos rfl, if_neg (show ¬ (0 : Int) > 0 by decide), if_pos rfl]
    | succ n ih =>
      intro q h l b
      have hne : q ≠ [] := fun z => by rw [z] at h; cases h
      have e := List.dropLast_concat_getLast hne
      have k : q.dropLast.length = n := by rw [List.length_dropLast, h]; rfl
      have bd : Bits q.dropLast := fun z hz => b z (List.dropLast_subset _ hz)
      have i := ih q.dropLast k (by omega) bd
      have pq := (pOf_pos b).2 l
      rw [← e, ← List.cons_append, goF_app, i, pOf_snoc]
      rw [← e, pOf_snoc] at pq
      show goS (en, pOf q.dropLast) _ = _
      exact go_one (pOf_pos bd).1 pq
  exact fun {q} l b => key _ q rfl l b
theorem At.go {bs en : List Int} {p : Int} (h : At bs en p) : goF ([], 0) bs = (en, p) := by
  cases h with
  | ahead h ok => rw [h, go_signs ok]; rfl
  | amid h ok l b => rw [h, goF_app, go_signs ok]; exact go_amid l b
/-- one more bit; ahead of a sign a 1 -/
theorem At.step {bs en : List Int} {p b : Int} (h : At bs en p) (hb : 0 ≤ b ∧ b ≤ 1) (h1 : p = 0 → b = 1) : ∃ en' p', At (bs ++ [b]) en' p' ∧ ((en' = en ∧ p' ≠ 0) ∨ (p ≠ 0 ∧ p' = 0 ∧ en'.length = en.length + 1)) := by
  cases h with
  | ahead h ok =>
    have := h1 rfl
    subst this
    exact ⟨en, pOf [], .amid (by rw [h]) ok (by decide) (fun z hz => nomatch hz), .inl ⟨rfl, by decide⟩⟩
  | @amid q h ok l bq =>
    have b' : Bits (q ++ [b]) := bq.app fun z hz => by rw [List.mem_singleton.mp hz]; exact hb
    rcases Nat.lt_or_ge q.length 7 with c | c
    · exact ⟨en, pOf (q ++ [b]), .amid (by rw [h, List.append_assoc]; rfl) ok (by rw [List.length_append]; simp; omega) b', .inl ⟨rfl, by have := (pOf_pos b').1; omega⟩⟩
    · have l8 : (q ++ [b]).length = 8 := by rw [List.length_append, List.length_singleton]; omega
      obtain ⟨e, v0, v1⟩ := bits8_val l8 b'
      refine ⟨en ++ [valB (q ++ [b])], 0, .ahead ?_ fun z hz => ?_, .inr ⟨by have := (pOf_pos bq).1; omega, rfl, by rw [List.length_append]; rfl⟩⟩
      · rw [flat_snoc, nine, e, h, List.append_assoc]
        rfl
      · rcases List.mem_append.mp hz with hz | hz
        · exact ok z hz
        · rw [List.mem_singleton.mp hz]
          exact ⟨v0, v1⟩
theorem At.zero {bs en : List Int} {p : Int} (h : At bs en p) : p = 0 ↔ bs = en.flatMap nine := by
  cases h with
  | ahead h _ => exact ⟨fun _ => h, fun _ => rfl⟩
  | amid h _ l b =>
    have := (pOf_pos b).1
    refine ⟨fun z => by omega, fun z => ?_⟩
    rw [z] at h
    have := congrArg List.length h
    rw [List.length_append, List.length_cons] at this
    omega
/-! ### no text's decisions begin with another's -/
theorem nine_pre {s t : Int} {x y : List Int} (hs : 0 ≤ s ∧ s ≤ 255) (ht : 0 ≤ t ∧ t ≤ 255) (h : nine s ++ x <+: nine t ++ y) : s = t ∧ x <+: y := by
  obtain ⟨r, e⟩ := h
  rw [List.append_assoc] at e
  obtain ⟨e1, e2⟩ := List.append_inj e (by rw [nine_len, nine_len])
  have : valB (bits8 s) = valB (bits8 t) := by rw [List.tail_eq_of_cons_eq e1]
  rw [valB_bits8 hs, valB_bits8 ht] at this
  exact ⟨this, ⟨r, e2⟩⟩
theorem dec_pre : ∀ {a b : List Int}, (∀ z ∈ a, 0 ≤ z ∧ z ≤ 255) → (∀ z ∈ b, 0 ≤ z ∧ z ≤ 255) → decOf a <+: decOf b → a = b
  | [], [], _, _, _ => rfl
  | [], t :: b, _, _, ⟨r, e⟩ => by
    have := List.head_eq_of_cons_eq e
    cases this
  | s :: a, [], _, _, ⟨r, e⟩ => by
    have := List.head_eq_of_cons_eq e
    cases this
  | s :: a, t :: b, ha, hb, h => by
    have f : ∀ (s : Int) (a : List Int), decOf (s :: a) = nine s ++ decOf a := fun s a => by unfold decOf; rw [List.flatMap_cons, List.append_assoc]
    rw [f, f] at h
    obtain ⟨e, h⟩ := nine_pre (ha s List.mem_cons_self) (hb t List.mem_cons_self) h
    rw [e, dec_pre (fun z hz => ha z (List.mem_cons_of_mem _ hz)) (fun z hz => hb z (List.mem_cons_of_mem _ hz)) h]
theorem no_pre : ∀ {a en : List Int}, (∀ z ∈ a, 0 ≤ z ∧ z ≤ 255) → (∀ z ∈ en, 0 ≤ z ∧ z ≤ 255) → ¬ decOf a <+: en.flatMap nine ++ [1]
  | [], [], _, _, ⟨r, e⟩ => by
    have := List.head_eq_of_cons_eq e
    cases this
  | [], t :: en, _, _, ⟨r, e⟩ => by
    have := List.head_eq_of_cons_eq e
    cases this
  | s :: a, [], _, _, h => by
    have := h.length_le
    rw [dec_len] at this
    simp at this
  | s :: a, t :: en, ha, hb, h => by
    have f : decOf (s :: a) = nine s ++ decOf a := by unfold decOf; rw [List.flatMap_cons, List.append_assoc]
    rw [f, List.flatMap_cons, List.append_assoc] at h
    exact no_pre (fun z hz => ha z (List.mem_cons_of_mem _ hz)) (fun z hz => hb z (List.mem_cons_of_mem _ hz)) (nine_pre (ha s List.mem_cons_self) (hb t List.mem_cons_self) h).2
/-- a text too long is not the one of which the bytes are -/
theorem sk_long {ks : List Lk} {b0 d en ns ex : List Int} {j : Nat} (ok : LksOk ks) (h0 : Bits b0) (hx : Byts ex) (ed : d = pressF ks b0 ns ++ ex) (hn : TextOk 1000 ns) (he : ∀ z ∈ en, 0 ≤ z ∧ z ≤ 255) (l : ns.length ≤ en.length)
    (h : skF ks b0 d (j + 1) = en.flatMap nine ++ [1]) : False := by
  subst ed
  have sl := skF_len ks b0 (pressF ks b0 ns ++ ex) (j + 1)
  rw [h, List.length_append, flat_len nine_len, List.length_singleton] at sl
  have e := skF_text (ns := ns) ok h0 hx (Nat.le_refl _)
  rw [List.take_length] at e
  have p := skF_pre ks b0 (pressF ks b0 ns ++ ex) (i := (decOf ns).length) (j := j + 1) (by rw [dec_len]; omega)
  rw [e, h] at p
  exact no_pre hn.all he p
/-- a text that ended is the one of which the bytes are, if any -/
theorem sk_same {ks : List Lk} {b0 d en ns ex : List Int} {j : Nat} (ok : LksOk ks) (h0 : Bits b0) (hx : Byts ex) (ed : d = pressF ks b0 ns ++ ex) (hn : TextOk 1000 ns) (he : ∀ z ∈ en, 0 ≤ z ∧ z ≤ 255)
    (h : skF ks b0 d j = decOf en) : en = ns := by
  subst ed
  have e := skF_text (ns := ns) ok h0 hx (Nat.le_refl _)
  rw [List.take_length] at e
  rcases Nat.le_total (decOf ns).length j with c | c
  · have p := skF_pre ks b0 (pressF ks b0 ns ++ ex) c
    rw [e, h] at p
    exact (dec_pre hn.all he p).symm
  · have p := skF_pre ks b0 (pressF ks b0 ns ++ ex) c
    rw [e, h] at p
    exact dec_pre he hn.all p
theorem press_pos {ks : List Lk} {b0 ns : List Int} (ok : LksOk ks) (h0 : Bits b0) (hn : TextOk 1000 ns) : 1 ≤ (pressF ks b0 ns).length := by
  rcases Nat.eq_zero_or_pos (pressF ks b0 ns).length with z | z
  · exfalso
    have e := List.length_eq_zero_iff.mp z
    have key : ∀ os : List Int, (∀ z ∈ os, 0 ≤ z ∧ z ≤ 255) → os = ns := fun os ho => by
      have s := skF_text (ns := os) (ex := []) ok h0 (fun z hz => nomatch hz) (Nat.le_refl _)
      rw [List.take_length] at s
      exact sk_same ok h0 (pressF_byt ks b0 os) (by rw [e, List.append_nil, List.nil_append]) hn ho s
    have a := key [] fun z hz => nomatch hz
    have b := key [0] fun z hz => by rw [List.mem_singleton.mp hz]; decide
    rw [← a] at b
    cases b
  · exact z
/-! bytes read, whatever they are: a text, or NoPress -/
theorem narB (ks : List Lk) (b0 bs : List Int) (b : Int) : narL e0 (toldF ks b0 (bs ++ [b])) = nar (narL e0 (toldF ks b0 bs)) (chanceF ks (stF ks (b0 ++ bs))) b := by
  rw [toldF_snoc, narL_append]
  rfl
theorem dec_end (en : List Int) : decOf en = en.flatMap nine ++ [0] := rfl
section
variable (K : PySem.W.Frag) [HasCls K "Span"] [HasNo K "Span" "low"] [HasNo K "Span" "width"] [HasNo K "Span" "size"] [HasCls K "Seeker"] [HasNo K "Seeker" "row"] [HasNo K "Seeker" "span"] [HasNo K "Seeker" "number"] [HasNo K "Seeker" "taken"]
def F_read_by (K : PySem.W.Frag) : V → V → V → Hp → VK → XK → Prop := fun x y z H Q E => ∃ (a da : Addr) (Fp : Addr → Prop) (ks : List Lk) (b0 d : List Int) (m : Nat), x = .ref a ∧ y = .ref da ∧ z = .int m ∧ ForAt K H a Fp ks b0 ∧ LksOk ks ∧ Bits b0 ∧ b0.length ≤ 700000 ∧ goF ([], 0) b0 = ([], 0) ∧
  H da = some (.lst (d.map V.int)) ∧ ¬ Fp da ∧ TextOk 12000 d ∧ m ≤ 1000 ∧
  (∀ ns ex, d = pressF ks b0 ns ++ ex → TextOk 1000 ns → ns.length ≤ m → ∀ p l1 l2 Fp' H', SameX Fp H H' → (∀ x, Fp' x → Fp x ∨ H x = none) → ForAt K H' a Fp' ks (b0 ++ decOf ns) → H p = none → H l1 = none → H l2 = none → ¬ Fp' p → ¬ Fp' l1 → ¬ Fp' l2 → l1 ≠ l2 → H' p = some (.tup [.ref l1, .ref l2]) → H' l1 = some (.lst (ns.map V.int)) → H' l2 = some (.lst ((pressF ks b0 ns).map V.int)) → Q (.ref p) H') ∧
  ((∀ ns ex, d = pressF ks b0 ns ++ ex → TextOk 1000 ns → ns.length ≤ m → False) → ∀ H', SameX Fp H H' → E (.ref (He.ga K "NoPress")) none H')
abbrev sp_read_by (K : PySem.W.Frag) : Sp := on3 (F_read_by K)
def t_read_by (K : PySem.W.Frag) (E : XK) : TS :=
  tSeq (tAsg (tNew (He.ga K "Seeker") (sp_Seeker_init K) [] (fun _ => E) (tCons (tVar 1) (tNil))) (gName 3))
  (tSeq (tAsg (tC .non) (gName 4))
  (tSeq (tWhile (tTest (tOp (rIsNo) (tVar 4) (tC .non))) (tSeq (tAsg (tOp (rSame K) (tMth "node" (one (He.ga K "Foreteller") (sp_Foreteller_node K)) (fun _ => E) (tVar 0) (tNil)) (tC (.int 0))) (gName 5))
  (tSeq (tAsg (tMth "bit" (one (He.ga K "Seeker") (sp_Seeker_bit K)) (fun _ => E) (tVar 3) (tCons (tMth "chance" (one (He.ga K "Foreteller") (sp_Foreteller_chance K)) (fun _ => E) (tVar 0) (tNil)) (tNil))) (gName 6))
  (tSeq (tIfS (tAnd (tTru K (tVar 5)) (tTest (tOp (rSame K) (tVar 6) (tC (.int 0))))) (tAsg (tMth "signs" (one (He.ga K "Foreteller") (sp_Foreteller_signs K)) (fun _ => E) (tVar 0) (tNil)) (gName 4)) (tIfS (tAnd (tTru K (tVar 5)) (tTest (tOp (rSame K) (tCB (rLength K) (tCons (tMth "signs" (one (He.ga K "Foreteller") (sp_Foreteller_signs K)) (fun _ => E) (tVar 0) (tNil)) (tNil))) (tVar 2)))) (tRz (fun cls d _ H => E cls d H) (He.ga K "NoPress")) (tNext)))
  (tDrop (tMth "see" (one (He.ga K "Foreteller") (sp_Foreteller_see K)) (fun _ => E) (tVar 0) (tCons (tVar 6) (tNil))))))))
  (tSeq (tAsg (tMth "told" (one (He.ga K "Seeker") (sp_Seeker_told K)) (fun _ => E) (tVar 3) (tNil)) (gName 7))
  (tSeq (tIfS (tTest (tOp (rDiff K) (tSl (rSlL K) (tVar 1) (tNoPart) (tPart (tCB (rLength K) (tCons (tVar 7) (tNil))))) (tVar 7))) (tRz (fun cls d _ H => E cls d H) (He.ga K "NoPress")) (tNext))
  (tRet (tTup (tCons (tVar 4) (tCons (tVar 7) (tNil)))))))))
theorem pure_read_by {x y z : V} {H : Hp} {Q : VK} {E : XK} (h : F_read_by K x y z H Q E) : t_read_by K E ⟨fun _ H' => Q .non H', Q, fun _ _ => False, fun _ _ => False⟩ [some x, some y, some z, none, none, none, none, none] H := by
  obtain ⟨a, da, Fp, ks, b0, d, m, rfl, rfl, rfl, A, ok, hb0, hn, g0, hda, nFd, dT, m1, q, r⟩ := h
  have dB' : Byts d := dT.all
  have dl := dT.len
  have nF : ∀ {x : Addr}, H x = none → ¬ Fp x := fun hx z => by
    obtain ⟨o, ho, _⟩ := A.dom _ z
    rw [hx] at ho
    cases ho
  unfold t_read_by
  walk_at "go"
  intro sk dx na ndx nad
  walk_at "go"
  refine seeker_new2 hda dB' dl na ndx nad fun rr sp sdx H1 s1 nr nsp M => ?_
  have A1 := A.same s1
  have hda1 := s1 _ _ hda
  have X1 : SameX Fp H H1 := SameX.of s1
  have w0 : WSp 0 e0 := wsp0'
  walk_at "go"
  refine g_while (fun k σ H2 => ∃ tv u5 u6 Fp' B en, σ = [some (.ref a), some (.ref da), some (.int m), some (.ref sk), some tv, u5, u6, none] ∧ SameX Fp H H2 ∧ (∀ x, Fp' x → Fp x ∨ H x = none) ∧ ForAt K H2 a Fp' ks (b0 ++ B) ∧ H2 da = some (.lst (d.map V.int)) ∧ ¬ Fp' da ∧
    SeekAt K H2 sk dx rr sp sdx d (narL e0 (toldF ks b0 B)) (narL e0 (toldF ks b0 B)).2.2.toNat ∧ ¬ Fp' sk ∧ ¬ Fp' sp ∧ ¬ Fp' rr ∧ en.length ≤ m ∧ (∀ z ∈ en, 0 ≤ z ∧ z ≤ 255) ∧
    ((∃ j pl, tv = .non ∧ B = skF ks b0 d j ∧ At B en pl ∧ (pl ≠ 0 → en.length < m) ∧ k = 9 * m + 10 - j) ∨ ∃ l1 j, tv = .ref l1 ∧ B = decOf en ∧ skF ks b0 d j = decOf en ∧ H2 l1 = some (.lst (en.map V.int)) ∧ H l1 = none ∧ ¬ Fp' l1)) (9 * m + 10) ?_ ?_
  · exact ⟨.non, _, _, Fp, [], [], rfl, X1, fun x hx => .inl hx, by rw [List.append_nil]; exact A1, hda1, nFd, M, nF na, nF nsp, nF nr, Nat.zero_le _, (fun z hz => nomatch hz), .inl ⟨0, 0, rfl, rfl, At.start, (fun z => absurd rfl z), rfl⟩⟩
  clear M A1 hda1 X1
  rintro k σ H2 ⟨tv, u5, u6, Fp', B, en, rfl, S, g, A2, hda2, nFd2, M, n1, n2, n3, lm, eok, mode⟩
  walk_at "go"
  rcases mode with ⟨j, pl, rfl, eB, at_, lt, rfl⟩ | ⟨l1, j, rfl, rfl, eS, el1, nl1, nFl1⟩
  · refine difY rfl ?_
    have hB : Bits B := by rw [eB]; exact skF_bits _ _ _ _
    have hbits : Bits (b0 ++ B) := hb0.app hB
    have bl : B.length = j := by rw [eB]; exact skF_len _ _ _ _
    have jl := at_.len.2
    rw [bl] at jl
    have gj : ((stF ks (b0 ++ B)).ended, (stF ks (b0 ++ B)).place) = (en, pl) := by rw [goF_st, goF_app, g0]; exact at_.go
    have hen : (stF ks (b0 ++ B)).ended = en := congrArg Prod.fst gj
    have hpl : (stF ks (b0 ++ B)).place = pl := congrArg Prod.snd gj
    have wj := narL_ok (toldF_ok ok hb0 hB) w0
    rw [toldF_len, bl, Nat.zero_add] at wj
    have c1 := (fokF ok hbits).chance
    walk_at "go"
    refine fore_one A2 (fun _ _ _ _ _ _ => rfl) ?_
    walk_at "go"
    refine ⟨a, Fp', ks, _, rfl, A2, ?_⟩
    rw [hpl]
    walk_at "go"
    refine seek_one M rfl ?_
    walk_at "go"
    refine fore_one A2 (fun _ _ _ _ _ _ => rfl) ?_
    walk_at "go"
    refine ⟨a, Fp', ks, _, rfl, A2, ok, hbits, fun H3 s3 => ?_⟩
    have S := S.trans (SameX.of s3)
    have hda2 := s3 _ _ hda2
    have A2 := A2.same s3
    have M := M.same s3
    clear s3
    have eN : skF ks b0 d (j + 1) = B ++ [bitOf d (narL e0 (toldF ks b0 B)) (chanceF ks (stF ks (b0 ++ B)))] := by rw [skF, ← eB]; rfl
    have nz := narB ks b0 B (bitOf d (narL e0 (toldF ks b0 B)) (chanceF ks (stF ks (b0 ++ B))))
    have b01 := bitF_01 ks b0 d B
    unfold bitF at b01
    generalize chanceF ks (stF ks (b0 ++ B)) = ch at eN c1 nz b01
    walk_at "go"
    refine ⟨sk, dx, rr, sp, sdx, d, _, _, rfl, M, dB', by omega, wj, by omega, .int, (fun z => by rw [btw, decide_eq_true c1.1, decide_eq_true c1.2] at z; cases z), fun c' hc' _ _ H4 s4 M4 => ?_⟩
    cases hc'
    rw [← nz] at M4
    generalize bitOf d (narL e0 (toldF ks b0 B)) ch = b at eN nz b01 M4
    have ntM : ∀ x xs, H3 x = some (.tup xs) → ¬ (x = sk ∨ x = sp) := fun x xs hx => not_or.mpr ⟨ne_kind hx M.ins (by intro z; cases z), ne_kind hx M.spn (by intro z; cases z)⟩
    have A4 := A2.keep s4 (fun x hx y => by
      rcases y with y | y
      · exact n1 (by rw [← y]; exact hx)
      · exact n2 (by rw [← y]; exact hx)) ntM
    have hda4 := s4.kp _ _ (not_or.mpr ⟨ne_kind hda2 M.ins (by intro z; cases z), ne_kind hda2 M.spn (by intro z; cases z)⟩) hda2
    have S4 : SameX Fp H H4 := S.grow s4 fun x hx => .inr (by
      rcases hx with y | y
      · rw [y]; exact na
      · rw [y]; exact nsp)
    clear A2 hda2 S s4 M ntM
    -- what is seen: the next turn
    have go : ∀ (H5 : Hp) (tv : V) (en' : List Int), SameX Fp H H5 → ForAt K H5 a Fp' ks (b0 ++ B) → H5 da = some (.lst (d.map V.int)) → SeekAt K H5 sk dx rr sp sdx d (narL e0 (toldF ks b0 (B ++ [b]))) (narL e0 (toldF ks b0 (B ++ [b]))).2.2.toNat → en'.length ≤ m → (∀ z ∈ en', 0 ≤ z ∧ z ≤ 255) →
        ((∃ pl', tv = .non ∧ At (B ++ [b]) en' pl' ∧ (pl' ≠ 0 → en'.length < m)) ∨ ∃ l1, tv = .ref l1 ∧ B ++ [b] = decOf en' ∧ H5 l1 = some (.lst (en'.map V.int)) ∧ H l1 = none ∧ ¬ Fp' l1) → ∀ u5 : Option V,
        F_Foreteller_see K (.ref a) (.int b) H5 (fun _ H' => ∃ m', m' < 9 * m + 10 - j ∧ ∃ tv' u5' u6 Fp' B' en, ([some (.ref a), some (.ref da), some (.int m), some (.ref sk), some tv, u5, some (.int b), none] : List (Option V)) = [some (.ref a), some (.ref da), some (.int m), some (.ref sk), some tv', u5', u6, none] ∧ SameX Fp H H' ∧ (∀ x, Fp' x → Fp x ∨ H x = none) ∧ ForAt K H' a Fp' ks (b0 ++ B') ∧ H' da = some (.lst (d.map V.int)) ∧ ¬ Fp' da ∧
          SeekAt K H' sk dx rr sp sdx d (narL e0 (toldF ks b0 B')) (narL e0 (toldF ks b0 B')).2.2.toNat ∧ ¬ Fp' sk ∧ ¬ Fp' sp ∧ ¬ Fp' rr ∧ en.length ≤ m ∧ (∀ z ∈ en, 0 ≤ z ∧ z ≤ 255) ∧
          ((∃ j pl, tv' = .non ∧ B' = skF ks b0 d j ∧ At B' en pl ∧ (pl ≠ 0 → en.length < m) ∧ m' = 9 * m + 10 - j) ∨ ∃ l1 j, tv' = .ref l1 ∧ B' = decOf en ∧ skF ks b0 d j = decOf en ∧ H' l1 = some (.lst (en.map V.int)) ∧ H l1 = none ∧ ¬ Fp' l1)) E := by
      intro H5 tv en' S5 A5 hda5 M5 lm' eok' mode u5
      refine see_of A5 ok hbits (by rw [List.length_append]; omega) b01 fun Fp2 H6 s6 g6 A6 => ?_
      have nn : ∀ {x : Addr} {o : HO}, H5 x = some o → ¬ Fp' x → ¬ Fp2 x := fun e n z => by
        rcases g6 _ z with y | y
        · exact n y
        · rw [e] at y; cases y
      refine ⟨9 * m + 10 - (j + 1), by omega, tv, _, _, Fp2, B ++ [b], en', rfl, S5.grow s6 g, fun x hx => ?_, by rw [← List.append_assoc]; exact A6, s6.kp _ _ nFd2 hda5, nn hda5 nFd2, ⟨s6.kp _ _ n1 M5.ins, s6.kp _ _ n3 M5.row, s6.kp _ _ n2 M5.spn, M5.nsp⟩, nn M5.ins n1, nn M5.spn n2, nn M5.row n3, lm', eok', ?_⟩
      · rcases g6 x hx with y | y
        · exact g x y
        · exact .inr (S5.dm _ y)
      · rcases mode with ⟨pl', e1, e2, e3⟩ | ⟨l1, e1, e2, e3, e4, e5⟩
        · exact .inl ⟨j + 1, pl', e1, eN.symm, e2, e3, rfl⟩
        · exact .inr ⟨l1, j + 1, e1, e2, by rw [eN, e2], s6.kp _ _ e5 e3, e4, nn e3 e5⟩
    have A4' := A4
    walk_at "go"
    by_cases p0 : pl = 0
    · refine difY p0 ?_
      have eBn := at_.zero.mp p0
      walk_at "go"
      refine dif (fun hb0' => ?_) fun hb1 => ?_
      · subst hb0'
        walk_at "go"
        refine fore_one A4 (fun _ _ _ _ _ _ => rfl) ?_
        walk_at "go"
        refine ⟨a, Fp', ks, _, rfl, A4, fun l H5 nl s5 el => ?_⟩
        rw [hen] at el
        walk_at "go"
        refine fore_one (A4.same s5) (fun _ _ _ _ _ _ => rfl) ?_
        walk_at "go"
        exact go H5 (.ref l) en (S4.trans (SameX.of s5)) (A4.same s5) (s5 _ _ hda4) (M4.same s5) lm eok (.inr ⟨l, rfl, by rw [dec_end, ← eBn], el, S4.dm _ nl, fun z => by
          obtain ⟨o, ho, _⟩ := A4.dom _ z
          rw [nl] at ho
          cases ho⟩) _
      · have hb1 : b = 1 := by omega
        subst hb1
        walk_at "go"
        refine difY p0 ?_
        walk_at "go"
        refine fore_one A4 (fun _ _ _ _ _ _ => rfl) ?_
        walk_at "go"
        refine ⟨a, Fp', ks, _, rfl, A4, fun l H5 nl s5 el => ?_⟩
        rw [hen] at el
        walk_at "go"
        rw [List.length_map]
        refine dif (fun hl => ?_) fun hl => ?_
        · walk_at "go"
          refine r (fun ns ex ed tn nl' => ?_) H5 (S4.trans (SameX.of s5))
          refine sk_long ok hb0 (fun z hz => dB' z (by rw [ed]; exact List.mem_append_right _ hz)) ed tn eok (by omega) (j := j) ?_
          rw [eN, ← eBn]
        · refine g_next ?_
          walk_at "go"
          refine fore_one (A4.same s5) (fun _ _ _ _ _ _ => rfl) ?_
          walk_at "go"
          obtain ⟨en', p', at', h'⟩ := at_.step b01 fun _ => rfl
          rcases h' with ⟨rfl, pn⟩ | ⟨pn, _, _⟩
          · exact go H5 .non en' (S4.trans (SameX.of s5)) (A4.same s5) (s5 _ _ hda4) (M4.same s5) lm eok (.inl ⟨p', rfl, at', fun _ => by omega⟩) _
          · exact absurd p0 pn
    · refine difX p0 ?_
      walk_at "go"
      refine difX p0 ?_
      walk_at "go"
      refine fore_one A4 (fun _ _ _ _ _ _ => rfl) ?_
      walk_at "go"
      obtain ⟨en', p', at', h'⟩ := at_.step b01 fun z => absurd z p0
      have lt := lt p0
      exact go H4 .non en' S4 A4 hda4 M4 (by rcases h' with ⟨rfl, _⟩ | ⟨_, _, e⟩ <;> omega) at'.ok (.inl ⟨p', rfl, at', fun pn => by rcases h' with ⟨rfl, _⟩ | ⟨_, z, _⟩; exact lt; exact absurd z pn⟩) _
  · refine difX (by intro z; cases z) ?_
    have tok : TextOk 1000 en := ⟨by omega, eok⟩
    have wz := pressW (ns := en) ok hb0
    have nl9 := tok.len
    walk_at "go"
    refine seek_one M rfl ?_
    walk_at "go"
    refine ⟨sk, dx, rr, sp, sdx, d, _, _, _, rfl, M, wz, by omega, fun l2 H3 nl2 s3 el2 => ?_⟩
    have el2 : H3 l2 = some (.lst ((pressF ks b0 en).map V.int)) := el2
    have nl12 : l1 ≠ l2 := ne_of_none el1 nl2
    have nFl2 : ¬ Fp' l2 := fun z => by
      obtain ⟨o, ho, _⟩ := A2.dom _ z
      rw [nl2] at ho
      cases ho
    have A2 := A2.same s3
    have hda2 := s3 _ _ hda2
    have el1 := s3 _ _ el1
    have pl : (pressF ks b0 en).length ≤ 45 * en.length + 10 := pressF_len ok hb0
    have nl2H : H l2 = none := S.dm _ nl2
    have S3 := S.trans (SameX.of s3)
    walk_at "go"
    intro c nc
    have ec : (upd H3 c (.lst (cutV (d.map V.int) none (some ((((pressF ks b0 en).map V.int).length : Nat) : Int))))) c = some (.lst ((d.take (pressF ks b0 en).length).map V.int)) := by rw [upd_same, cutV_map, List.length_map, cutL_to]
    have A2 := A2.same (same_new (u := .lst (cutV (d.map V.int) none (some ((((pressF ks b0 en).map V.int).length : Nat) : Int)))) (Same.refl _) nc)
    have el1 := lk_new (u := (.lst (cutV (d.map V.int) none (some ((((pressF ks b0 en).map V.int).length : Nat) : Int))))) el1 nc
    have el2 := lk_new (u := (.lst (cutV (d.map V.int) none (some ((((pressF ks b0 en).map V.int).length : Nat) : Int))))) el2 nc
    have S3 := S3.new (o := .lst (cutV (d.map V.int) none (some ((((pressF ks b0 en).map V.int).length : Nat) : Int)))) nc
    generalize upd H3 c (.lst (cutV (d.map V.int) none (some ((((pressF ks b0 en).map V.int).length : Nat) : Int)))) = H4 at ec el1 el2 S3 A2
    walk_at "go"
    refine g_diffLI (sq_of ec) (sq_of el2) ?_
    refine g_ebl ?_
    refine difN (fun hne => ?_) fun heq => ?_
    · walk_at "go"
      refine r (fun ns ex ed tn nl' => ?_) H4 S3
      have same := sk_same ok hb0 (fun z hz => dB' z (by rw [ed]; exact List.mem_append_right _ hz)) ed tn eok eS
      subst same
      exact hne (by rw [ed, List.take_left])
    · walk_at "go"
      intro p np
      refine q en (d.drop (pressF ks b0 en).length) (by have e := (List.take_append_drop (pressF ks b0 en).length d).symm; rw [heq] at e; exact e) tok lm p l1 l2 Fp' _ (S3.new np) g (A2.same (same_new (Same.refl _) np)) (S3.dm _ np) nl1 nl2H (fun z => by
        obtain ⟨o, ho, _⟩ := A2.dom _ z
        rw [np] at ho
        cases ho) nFl1 nFl2 nl12 upd_same (lk_new el1 np) (lk_new el2 np)
end
/-! ### read_first, read: of anything -/
/-- which refusal is due of looks, bytes, a most, learned texts, if one is -/
inductive Bad4 (K : PySem.W.Frag) (x y z u : V) (H : Hp) : Str → Prop
  | looks (h : LsT K H x false) : Bad4 K x y z u H "NoLooks"
  | bytes {l : Addr} {las : List Addr} {ks : List Lk} (e : x = .ref l) (L : LooksH H l las ks) (ok : LksOk ks) (h : SgT K H 12000 y false) : Bad4 K x y z u H "NoBytes"
  | most {l da : Addr} {las : List Addr} {ks : List Lk} {d : List Int} (e : x = .ref l) (L : LooksH H l las ks) (ok : LksOk ks) (e2 : y = .ref da) (hd : H da = some (.lst (d.map V.int))) (t : TextOk 12000 d) (tz : TyW K H z) (h : btw 0 1000 z = false) : Bad4 K x y z u H "NoMost"
  | learned {l da : Addr} {las : List Addr} {ks : List Lk} {d : List Int} {m : Nat} (e : x = .ref l) (L : LooksH H l las ks) (ok : LksOk ks) (e2 : y = .ref da) (hd : H da = some (.lst (d.map V.int))) (t : TextOk 12000 d) (e3 : z = .int m) (hm : m ≤ 1000) (h : LnBad K H u) : Bad4 K x y z u H "NoText"
/-- what is right: looks ks, bytes d, most m, learned texts ts -/
def Good4 (x y z u : V) (H : Hp) (ks : List Lk) (d : List Int) (m : Nat) (ts : List (List Int)) : Prop := ∃ (l da : Addr) (las : List Addr), x = .ref l ∧ LooksH H l las ks ∧ LksOk ks ∧ y = .ref da ∧ H da = some (.lst (d.map V.int)) ∧ TextOk 12000 d ∧ z = .int m ∧ m ≤ 1000 ∧ LearnT H u ts ∧ TsOk ts ∧ (dB ts).length ≤ 600000
/-- the text that stands first in the bytes -/
def FirstOf (ks : List Lk) (ts : List (List Int)) (d : List Int) (m : Nat) (ns ex : List Int) : Prop := d = pressF ks (dB ts) ns ++ ex ∧ TextOk 1000 ns ∧ ns.length ≤ m
section
variable (K : PySem.W.Frag) [HasTup K "KINDS" [.str "even", .str "quick", .str "run"]]
def F_read_first (K : PySem.W.Frag) : V → V → V → V → Hp → VK → XK → Prop := fun x y z u H Q E =>
  (∃ ks d m ts, Good4 x y z u H ks d m ts ∧ (∀ ns ex, FirstOf ks ts d m ns ex → ∀ p l1 H', H p = none → H l1 = none → Same H H' → H' p = some (.tup [.ref l1, .int ((pressF ks (dB ts) ns).length : Int)]) → H' l1 = some (.lst (ns.map V.int)) → Q (.ref p) H') ∧
    ((∀ ns ex, ¬ FirstOf ks ts d m ns ex) → ∀ H', Same H H' → E (.ref (He.ga K "NoPress")) none H')) ∨ ∃ C, Bad4 K x y z u H C ∧ ∀ H', Same H H' → E (.ref (He.ga K C)) none H'
abbrev sp_read_first (K : PySem.W.Frag) : Sp := on4 (F_read_first K)
def F_read (K : PySem.W.Frag) : V → V → V → V → Hp → VK → XK → Prop := fun x y z u H Q E =>
  (∃ ks d m ts, Good4 x y z u H ks d m ts ∧ (∀ ns, FirstOf ks ts d m ns [] → ∀ l1 H', H l1 = none → Same H H' → H' l1 = some (.lst (ns.map V.int)) → Q (.ref l1) H') ∧
    ((∀ ns, ¬ FirstOf ks ts d m ns []) → ∀ H', Same H H' → E (.ref (He.ga K "NoPress")) none H')) ∨ ∃ C, Bad4 K x y z u H C ∧ ∀ H', Same H H' → E (.ref (He.ga K C)) none H'
abbrev sp_read (K : PySem.W.Frag) : Sp := on4 (F_read K)
/-- the first text of bytes is one -/
theorem first_one {ks : List Lk} {ts : List (List Int)} {d : List Int} {m m' : Nat} {ns ex ns' ex' : List Int} (ok : LksOk ks) (hd : Byts d) (h : FirstOf ks ts d m ns ex) (h' : FirstOf ks ts d m' ns' ex') : ns = ns' ∧ ex = ex' := by
  have e := skF_text (ks := ks) (b0 := dB ts) (ns := ns) (ex := ex) ok (dB_bits ts) (fun z hz => hd z (by rw [h.1]; exact List.mem_append_right _ hz)) (Nat.le_refl _)
  rw [List.take_length, ← h.1] at e
  have := sk_same ok (dB_bits ts) (fun z hz => hd z (by rw [h'.1]; exact List.mem_append_right _ hz)) h'.1 h'.2.1 h.2.1.all e
  subst this
  have := h.1.symm.trans h'.1
  exact ⟨rfl, List.append_cancel_left this⟩
end
/-! a store, plainly: pieces, the newest one first -/
/-- a small letter -/
def small (c : Nat) : Bool := decide (97 ≤ c) && decide (c ≤ 122)
/-- a name: one to eight small letters -/
def nameOk (z : Str) : Bool := decide (1 ≤ z.length) && (decide (z.length ≤ 8) && z.cps.toList.all small)
structure Pc where
  nm : Str
  bs : Option Str
  tx : List Int
/-- the pieces up to a base, the lowest first -/
def upR : List Pc → Option Str → List Pc
  | [], _ => []
  | p :: rs, b => if b = some p.nm then upR rs p.bs ++ [p] else upR rs b
/-- the texts up to a base -/
def lrn (rs : List Pc) (b : Option Str) : List (List Int) := (upR rs b).map Pc.tx
inductive Stk (m : Nat) : List Pc → Prop
  | nil : Stk m []
  | cons {p : Pc} {rs : List Pc} (h : Stk m rs) (nmok : nameOk p.nm = true) (new : ∀ q ∈ rs, q.nm ≠ p.nm) (base : ∀ b, p.bs = some b → ∃ q ∈ rs, q.nm = b) (ok : TextOk 200 p.tx) (len : p.tx.length ≤ m) : Stk m (p :: rs)
theorem upR_none : ∀ rs : List Pc, upR rs none = []
  | [] => rfl
  | p :: rs => by
    rw [upR, if_neg (by intro z; cases z)]
    exact upR_none rs
theorem upR_hit {p : Pc} {rs : List Pc} : upR (p :: rs) (some p.nm) = upR rs p.bs ++ [p] := by rw [upR, if_pos rfl]
theorem upR_miss {p : Pc} {rs : List Pc} {b : Option Str} (h : b ≠ some p.nm) : upR (p :: rs) b = upR rs b := by rw [upR, if_neg h]
theorem Stk.base_old {m : Nat} {p q : Pc} {rs : List Pc} (h : Stk m (p :: rs)) (hq : q ∈ p :: rs) : q.bs ≠ some p.nm := by
  intro z
  cases h with
  | cons h nmok new base ok len =>
    rcases List.mem_cons.mp hq with rfl | hq
    · obtain ⟨r, hr, e⟩ := base _ z
      exact new r hr e
    · have key : ∀ {rs : List Pc}, Stk m rs → q ∈ rs → ∀ b, q.bs = some b → ∃ r ∈ rs, r.nm = b := by
        intro rs h
        induction h with
        | nil => intro hq; cases hq
        | cons h nmok new base ok len ih =>
          intro hq b hb
          rcases List.mem_cons.mp hq with rfl | hq
          · obtain ⟨r, hr, e⟩ := base b hb
            exact ⟨r, List.mem_cons_of_mem _ hr, e⟩
          · obtain ⟨r, hr, e⟩ := ih hq b hb
            exact ⟨r, List.mem_cons_of_mem _ hr, e⟩
      obtain ⟨r, hr, e⟩ := key h hq _ z
      exact new r hr e
theorem Stk.tail {m : Nat} {p : Pc} {rs : List Pc} (h : Stk m (p :: rs)) : Stk m rs := by cases h; assumption
theorem Stk.new {m : Nat} {p : Pc} {rs : List Pc} (h : Stk m (p :: rs)) : ∀ q ∈ rs, q.nm ≠ p.nm := by cases h; assumption
theorem Stk.ok {m : Nat} : ∀ {rs : List Pc}, Stk m rs → ∀ p ∈ rs, TextOk 200 p.tx ∧ p.tx.length ≤ m := fun h => by
  induction h with
  | nil => exact fun p hp => nomatch hp
  | cons h nmok new base ok len ih =>
    intro q hq
    rcases List.mem_cons.mp hq with rfl | hq
    · exact ⟨ok, len⟩
    · exact ih q hq
theorem Stk.nmok {m : Nat} : ∀ {rs : List Pc}, Stk m rs → ∀ p ∈ rs, nameOk p.nm = true := fun h => by
  induction h with
  | nil => exact fun p hp => nomatch hp
  | cons h nmok new base ok len ih =>
    intro q hq
    rcases List.mem_cons.mp hq with rfl | hq
    · exact nmok
    · exact ih q hq
theorem nameOk_len {z : Str} (h : nameOk z = true) : z.length ≤ 8 := by
  rw [nameOk, Bool.and_eq_true, Bool.and_eq_true, decide_eq_true_iff, decide_eq_true_iff] at h
  exact h.2.1
/-- one name, one piece -/
theorem Stk.same {m : Nat} : ∀ {rs : List Pc}, Stk m rs → ∀ p ∈ rs, ∀ q ∈ rs, p.nm = q.nm → p = q := fun h => by
  induction h with
  | nil => exact fun p hp => nomatch hp
  | cons h nmok new base ok len ih =>
    intro p hp q hq e
    rcases List.mem_cons.mp hp with ep | hp'
    · rcases List.mem_cons.mp hq with eq | hq'
      · rw [ep, eq]
      · exact absurd (by rw [← e, ep]) (new q hq')
    · rcases List.mem_cons.mp hq with eq | hq'
      · exact absurd (by rw [e, eq]) (new p hp')
      · exact ih p hp' q hq' e
/-- a piece stands right above its base -/
theorem upR_at {m : Nat} : ∀ {rs : List Pc}, Stk m rs → ∀ p ∈ rs, upR rs (some p.nm) = upR rs p.bs ++ [p]
  | [], _, _, hp => nomatch hp
  | q :: rs, h, p, hp => by
    rw [upR_miss (h.base_old hp)]
    rcases List.mem_cons.mp hp with rfl | hp'
    · exact upR_hit
    · have ne : (some p.nm : Option Str) ≠ some q.nm := fun z => h.new p hp' (Option.some.inj z)
      rw [upR_miss ne]
      exact upR_at h.tail p hp'
theorem upR_mem : ∀ {rs : List Pc} {b : Option Str} {q : Pc}, q ∈ upR rs b → q ∈ rs
  | [], _, _, h => nomatch h
  | p :: rs, b, q, h => by
    rw [upR] at h
    split at h
    · rcases List.mem_append.mp h with h | h
      · exact List.mem_cons_of_mem _ (upR_mem h)
      · rw [List.mem_singleton.mp h]; exact List.mem_cons_self
    · exact List.mem_cons_of_mem _ (upR_mem h)
theorem upR_len : ∀ (rs : List Pc) (b : Option Str), (upR rs b).length ≤ rs.length
  | [], _ => Nat.le_refl _
  | p :: rs, b => by
    rw [upR]
    split
    · have := upR_len rs p.bs
      rw [List.length_append, List.length_singleton, List.length_cons]
      omega
    · have := upR_len rs b
      rw [List.length_cons]
      omega
/-- the bytes of a piece -/
def pcB (ks : List Lk) (rs : List Pc) (p : Pc) : List Int := pressF ks (dB (lrn rs p.bs)) p.tx
theorem pcB_old {m : Nat} {ks : List Lk} {p q : Pc} {rs : List Pc} (h : Stk m (q :: rs)) (hp : p ∈ rs) : pcB ks (q :: rs) p = pcB ks rs p := by
  unfold pcB lrn
  rw [upR_miss (h.base_old (List.mem_cons_of_mem _ hp))]
theorem TextOk.mono {a b : Nat} {ns : List Int} (h : TextOk a ns) (l : a ≤ b) : TextOk b ns := ⟨Nat.le_trans h.len l, h.all⟩
theorem dB_len_le : ∀ (ts : List (List Int)), (∀ t ∈ ts, TextOk 200 t) → (dB ts).length ≤ ts.length * 1801
  | [], _ => Nat.le_refl _
  | t :: ts, h => by
    have e : dB (t :: ts) = decOf t ++ dB ts := rfl
    have h1 := (h t List.mem_cons_self).len
    have := dB_len_le ts fun u hu => h u (List.mem_cons_of_mem _ hu)
    rw [e, List.length_append, dec_len, List.length_cons]
    omega
theorem Stk.lrn {m : Nat} {rs : List Pc} (h : Stk m rs) (b : Option Str) : (∀ t ∈ lrn rs b, TextOk 200 t ∧ t.length ≤ m) ∧ (dB (lrn rs b)).length ≤ rs.length * 1801 := by
  have a : ∀ t ∈ Fo.lrn rs b, TextOk 200 t ∧ t.length ≤ m := fun t ht => by
    obtain ⟨p, hp, rfl⟩ := List.mem_map.mp ht
    exact h.ok p (upR_mem hp)
  refine ⟨a, Nat.le_trans (dB_len_le _ fun t ht => (a t ht).1) (Nat.mul_le_mul_right _ ?_)⟩
  unfold Fo.lrn
  rw [List.length_map]
  exact upR_len rs b
/-- the dict of the pieces -/
def bV : Option Str → V
  | none => .non
  | some b => .str b
def kvs (rs : List Pc) (ts : List Addr) : List (Key × V) := ((rs.zip ts).map fun x => ((.inr x.1.nm : Key), V.ref x.2)).reverse
structure PcsAt (H : Hp) (ks : List Lk) (all : List Pc) (rs : List Pc) (ts : List Addr) : Prop where
  len : ts.length = rs.length
  at_ : ∀ (i : Nat) t p, ts[i]? = some t → rs[i]? = some p → ∃ da, H t = some (.tup [bV p.bs, .ref da]) ∧ H da = some (.lst ((pcB ks all p).map V.int))
def StoreAt (K : PySem.W.Frag) (H : Hp) (a d : Addr) (ks : List Lk) (m : Nat) (rs : List Pc) : Prop := ∃ dx kl las ts, H a = some (.ins (He.ga K "Store") dx [("kinds", .ref kl), ("longest", .int m), ("pieces", .ref d)]) ∧ LooksH H kl las ks ∧ H d = some (.dK (kvs rs ts)) ∧ PcsAt H ks rs rs ts
theorem PcsAt.same {H H1 : Hp} {ks : List Lk} {all rs : List Pc} {ts : List Addr} (h : PcsAt H ks all rs ts) (s : Same H H1) : PcsAt H1 ks all rs ts := ⟨h.len, fun i t p ht hp => by
  obtain ⟨da, h1, h2⟩ := h.at_ i t p ht hp
  exact ⟨da, s _ _ h1, s _ _ h2⟩⟩
theorem StoreAt.same {K : PySem.W.Frag} {H H1 : Hp} {a d : Addr} {ks : List Lk} {m : Nat} {rs : List Pc} (h : StoreAt K H a d ks m rs) (s : Same H H1) : StoreAt K H1 a d ks m rs := by
  obtain ⟨dx, kl, las, ts, e, L, ed, P⟩ := h
  exact ⟨dx, kl, las, ts, s _ _ e, L.same s, s _ _ ed, P.same s⟩
/-- a name asked in the dict -/
theorem kvs_at {m : Nat} : ∀ {rs : List Pc} {ts : List Addr}, Stk m rs → ts.length = rs.length → ∀ (i : Nat) t p, ts[i]? = some t → rs[i]? = some p → valV (kvs rs ts) (.inr p.nm) = some (.ref t)
  | [], ts, _, _, i, t, p, _, hp => by simp at hp
  | q :: rs, [], _, l, _, _, _, _, _ => by simp at l
  | q :: rs, u :: ts, h, l, i, t, p, ht, hp => by
    have e : kvs (q :: rs) (u :: ts) = kvs rs ts ++ [((.inr q.nm : Key), V.ref u)] := by
      unfold kvs
      rw [List.zip_cons_cons, List.map_cons, List.reverse_cons]
    have no : valV (kvs rs ts) (.inr q.nm) = none := by
      unfold valV
      rw [Option.map_eq_none_iff, List.find?_eq_none]
      intro x hx
      obtain ⟨y, hy, rfl⟩ := List.mem_map.mp (List.mem_reverse.mp hx)
      simp only [decide_eq_true_eq]
      intro z
      exact h.new y.1 (List.of_mem_zip hy).1 (Sum.inr.inj z)
    rw [e, valV_snoc _ _ _ _ no]
    rcases i with _ | i
    · cases ht
      cases hp
      rw [if_pos rfl]
    · have hp' : rs[i]? = some p := hp
      have hm := List.mem_of_getElem? hp'
      rw [if_neg (fun z => h.new p hm (Sum.inr.inj z))]
      exact kvs_at h.tail (by simpa using l) i t p ht hp'
/-- no such name -/
theorem kvs_no {rs : List Pc} {ts : List Addr} {n : Str} (h : ∀ p ∈ rs, p.nm ≠ n) : valV (kvs rs ts) (.inr n) = none := by
  unfold valV
  rw [Option.map_eq_none_iff, List.find?_eq_none]
  intro x hx
  obtain ⟨y, hy, rfl⟩ := List.mem_map.mp (List.mem_reverse.mp hx)
  simp only [decide_eq_true_eq]
  intro z
  exact h y.1 (List.of_mem_zip hy).1 (Sum.inr.inj z)
theorem kvs_len {rs : List Pc} {ts : List Addr} (l : ts.length = rs.length) : (kvs rs ts).length = rs.length := by
  unfold kvs
  rw [List.length_reverse, List.length_map, List.length_zip]
  omega
/-- what stands below a piece in a chain is the chain up to its base -/
theorem upR_take {m : Nat} : ∀ {rs : List Pc}, Stk m rs → ∀ (b : Option Str) (i : Nat) (p : Pc), (upR rs b)[i]? = some p → (upR rs b).take i = upR rs p.bs
  | [], _, b, i, p, h => by simp [upR] at h
  | q :: rs, h, b, i, p, hp => by
    have old : ∀ r ∈ rs, upR (q :: rs) r.bs = upR rs r.bs := fun r hr => upR_miss (h.base_old (List.mem_cons_of_mem _ hr))
    rw [upR] at hp ⊢
    split at hp
    · rename_i c
      rw [if_pos c]
      rw [List.getElem?_append] at hp
      split at hp
      · rename_i lt
        have := upR_take h.tail q.bs i p hp
        rw [List.take_append_of_le_length (by omega), this, old p (upR_mem (List.mem_of_getElem? hp))]
      · rename_i ge
        have hi := (List.getElem?_eq_some_iff.mp hp).1
        rw [List.length_singleton] at hi
        have e : i = (upR rs q.bs).length := by omega
        subst e
        rw [Nat.sub_self] at hp
        cases hp
        rw [List.take_left, upR_miss (h.base_old List.mem_cons_self)]
    · rename_i c
      rw [if_neg c, upR_take h.tail b i p hp, old p (upR_mem (List.mem_of_getElem? hp))]

theorem kvs_get {rs : List Pc} {ts : List Addr} {i : Nat} {k : Key} {v : V} (h : (kvs rs ts)[i]? = some (k, v)) : ∃ (q : Pc) (t : Addr) (j : Nat), k = .inr q.nm ∧ v = .ref t ∧ rs[j]? = some q ∧ ts[j]? = some t := by
  unfold kvs at h
  have hm := List.mem_reverse.mp (List.mem_of_getElem? h)
  obtain ⟨x, hx, e⟩ := List.mem_map.mp hm
  obtain ⟨j, hj⟩ := List.getElem?_of_mem hx
  rw [List.getElem?_zip_eq_some] at hj
  cases e
  exact ⟨x.1, x.2, j, rfl, rfl, hj.1, hj.2⟩
/-! a piece put, a piece dropped -/
theorem PcsAt.put {m : Nat} {H H1 : Hp} {ks : List Lk} {rs : List Pc} {ts : List Addr} {p : Pc} {t da : Addr} (h : PcsAt H ks rs rs ts) (sk : Stk m (p :: rs)) (kp : ∀ b o, H b = some o → (∀ kv, o ≠ .dK kv) → H1 b = some o) (ht : H1 t = some (.tup [bV p.bs, .ref da])) (hd : H1 da = some (.lst ((pcB ks (p :: rs) p).map V.int))) : PcsAt H1 ks (p :: rs) (p :: rs) (t :: ts) := by
  refine ⟨by rw [List.length_cons, List.length_cons, h.len], fun i u q hu hq => ?_⟩
  rcases i with _ | i
  · cases hu
    cases hq
    exact ⟨da, ht, hd⟩
  · have hu : ts[i]? = some u := hu
    have hq : rs[i]? = some q := hq
    obtain ⟨dq, h1, h2⟩ := h.at_ i u q hu hq
    exact ⟨dq, kp _ _ h1 (fun kv z => nomatch z), by rw [pcB_old sk (List.mem_of_getElem? hq)]; exact kp _ _ h2 fun kv z => nomatch z⟩
theorem kvs_put {m : Nat} {rs : List Pc} {ts : List Addr} {p : Pc} {t : Addr} (sk : Stk m (p :: rs)) : L2.putK (kvs rs ts) (.inr p.nm) (V.ref t) = kvs (p :: rs) (t :: ts) := by
  have e : kvs (p :: rs) (t :: ts) = kvs rs ts ++ [((.inr p.nm : Key), V.ref t)] := by
    unfold kvs
    rw [List.zip_cons_cons, List.map_cons, List.reverse_cons]
  have n := kvs_no (ts := ts) sk.new
  unfold valV at n
  rw [Option.map_eq_none_iff, List.find?_eq_none] at n
  have no : (kvs rs ts).any (fun kv => decide (kv.1 = (.inr p.nm : Key))) = false := List.any_eq_false.mpr n
  unfold L2.putK
  rw [no, e]
  rfl
/-- without the piece of a name -/
def rmv (rs : List Pc) (n : Str) : List Pc := rs.filter fun q => decide (q.nm ≠ n)
theorem rmv_mem {rs : List Pc} {n : Str} {q : Pc} : q ∈ rmv rs n ↔ q ∈ rs ∧ q.nm ≠ n := by
  unfold rmv
  rw [List.mem_filter, decide_eq_true_iff]
theorem rmv_cons_eq {rs : List Pc} {n : Str} {p : Pc} (h : p.nm = n) : rmv (p :: rs) n = rmv rs n := by
  unfold rmv
  rw [List.filter_cons, if_neg (by simp [h])]
theorem rmv_cons_ne {rs : List Pc} {n : Str} {p : Pc} (h : p.nm ≠ n) : rmv (p :: rs) n = p :: rmv rs n := by
  unfold rmv
  rw [List.filter_cons, if_pos (by simp [h])]
/-- nothing stands on it -/
def Bare (rs : List Pc) (n : Str) : Prop := ∀ q ∈ rs, q.bs ≠ some n
theorem upR_rmv : ∀ {rs : List Pc} {n : Str} {b : Option Str}, Bare rs n → b ≠ some n → upR (rmv rs n) b = upR rs b
  | [], n, b, _, _ => rfl
  | p :: rs, n, b, h, hb => by
    have h2 : Bare rs n := fun q hq => h q (List.mem_cons_of_mem _ hq)
    by_cases e : p.nm = n
    · rw [rmv_cons_eq e, upR_rmv h2 hb, upR_miss (by rw [e]; exact hb)]
    · rw [rmv_cons_ne e, upR, upR]
      by_cases c : b = some p.nm
      · rw [if_pos c, if_pos c, upR_rmv h2 (h p List.mem_cons_self)]
      · rw [if_neg c, if_neg c, upR_rmv h2 hb]
theorem Stk.rmv {m : Nat} {n : Str} : ∀ {rs : List Pc}, Stk m rs → Bare rs n → Stk m (Fo.rmv rs n) := fun h => by
  induction h with
  | nil => exact fun _ => .nil
  | @cons p rs h nmok new base ok len ih =>
    intro hb
    have ih := ih fun q hq => hb q (List.mem_cons_of_mem _ hq)
    by_cases e : p.nm = n
    · rw [rmv_cons_eq e]
      exact ih
    · rw [rmv_cons_ne e]
      refine .cons ih nmok (fun q hq => new q (rmv_mem.mp hq).1) (fun b eb => ?_) ok len
      obtain ⟨q, hq, rfl⟩ := base b eb
      exact ⟨q, rmv_mem.mpr ⟨hq, fun z => hb p List.mem_cons_self (by rw [eb, z])⟩, rfl⟩
theorem pcB_rmv {ks : List Lk} {rs : List Pc} {n : Str} {p : Pc} (h : Bare rs n) (hp : p ∈ rs) : pcB ks (Fo.rmv rs n) p = pcB ks rs p := by
  unfold pcB lrn
  rw [upR_rmv h (h p hp)]
theorem lrn_rmv {rs : List Pc} {n : Str} {b : Option Str} (h : Bare rs n) (hb : b ≠ some n) : lrn (Fo.rmv rs n) b = lrn rs b := by
  unfold lrn
  rw [upR_rmv h hb]
theorem rmv_len {rs : List Pc} {n : Str} : (Fo.rmv rs n).length ≤ rs.length := by
  unfold Fo.rmv
  exact List.length_filter_le _ _
theorem zip_fst {α β : Type} : ∀ {xs : List α} {ys : List β}, ys.length = xs.length → (xs.zip ys).map (·.1) = xs
  | [], [], _ => rfl
  | x :: xs, y :: ys, h => by
    rw [List.zip_cons_cons, List.map_cons, zip_fst (by simpa using h)]
theorem zip_split {α β : Type} (l : List (α × β)) : (l.map (·.1)).zip (l.map (·.2)) = l := by
  induction l with
  | nil => rfl
  | cons x l ih => rw [List.map_cons, List.map_cons, List.zip_cons_cons, ih]
/-- the dict without a name, its tuples -/
theorem drop_at {H : Hp} {ks : List Lk} {rs : List Pc} {ts : List Addr} {n : Str} (P : PcsAt H ks rs rs ts) (hb : Bare rs n) : ∃ ts', dropK (kvs rs ts) (.inr n) = kvs (Fo.rmv rs n) ts' ∧ PcsAt H ks (Fo.rmv rs n) (Fo.rmv rs n) ts' := by
  have f1 : ((rs.zip ts).filter fun x => decide (x.1.nm ≠ n)).map (·.1) = Fo.rmv rs n := by
    have := List.filter_map (f := fun x : Pc × Addr => x.1) (p := fun q : Pc => decide (q.nm ≠ n)) (l := rs.zip ts)
    rw [zip_fst P.len] at this
    exact this.symm
  refine ⟨((rs.zip ts).filter fun x => decide (x.1.nm ≠ n)).map (·.2), ?_, ?_, fun i t p ht hp => ?_⟩
  · unfold kvs dropK
    rw [← f1, zip_split, List.filter_reverse, List.filter_map]
    congr 3
    funext x
    show decide ((.inr x.1.nm : Key) ≠ .inr n) = decide (x.1.nm ≠ n)
    rw [Bool.eq_iff_iff, decide_eq_true_iff, decide_eq_true_iff]
    exact ⟨fun h z => h (by rw [z]), fun h z => h (Sum.inr.inj z)⟩
  · rw [← f1, List.length_map, List.length_map]
  · rw [← f1] at hp
    rw [List.getElem?_map] at ht hp
    cases e : ((rs.zip ts).filter fun x => decide (x.1.nm ≠ n))[i]? with
    | none => rw [e] at ht; cases ht
    | some x =>
      rw [e] at ht hp
      cases ht
      cases hp
      have hx := (List.mem_filter.mp (List.mem_of_getElem? e)).1
      obtain ⟨j, hj⟩ := List.getElem?_of_mem hx
      rw [List.getElem?_zip_eq_some] at hj
      obtain ⟨da, h1, h2⟩ := P.at_ j x.2 x.1 hj.2 hj.1
      exact ⟨da, h1, by rw [pcB_rmv hb (List.mem_of_getElem? hj.1)]; exact h2⟩
/-- the store stays where a thing of another kind, or another dict, is changed -/
theorem StoreAt.keep {K : PySem.W.Frag} {M : Addr → Prop} {H H1 : Hp} {a d : Addr} {ks : List Lk} {m : Nat} {rs : List Pc} (h : StoreAt K H a d ks m rs) (s : SameX M H H1) (hd : ¬ M d) (hM : ∀ b o, M b → H b = some o → ∃ kv, o = .dK kv) : StoreAt K H1 a d ks m rs := by
  obtain ⟨dx, kl, las, ts, e, L, ed, P⟩ := h
  have kp : ∀ b o, H b = some o → (∀ kv, o ≠ .dK kv) → H1 b = some o := fun b o hb no => s.kp b o (fun z => by obtain ⟨kv, q⟩ := hM b o z hb; exact no kv q) hb
  refine ⟨dx, kl, las, ts, kp _ _ e (fun kv z => nomatch z), ⟨kp _ _ L.lst (fun kv z => nomatch z), L.len, fun i x k hx hk => ?_⟩, s.kp _ _ hd ed, P.len, fun i t p ht hp => ?_⟩
  · obtain ⟨c, h1, h2⟩ := L.at_ i x k hx hk
    exact ⟨c, kp _ _ h1 (fun kv z => nomatch z), kp _ _ h2 fun kv z => nomatch z⟩
  · obtain ⟨da, h1, h2⟩ := P.at_ i t p ht hp
    exact ⟨da, kp _ _ h1 (fun kv z => nomatch z), kp _ _ h2 fun kv z => nomatch z⟩
theorem rmv_top {m : Nat} {p : Pc} {rs : List Pc} (sk : Stk m (p :: rs)) : Fo.rmv (p :: rs) p.nm = rs := by
  rw [rmv_cons_eq rfl]
  unfold Fo.rmv
  exact List.filter_eq_self.mpr fun q hq => decide_eq_true (sk.new q hq)
/-! the lists that a store leans on -/
def StoreFp (K : PySem.W.Frag) (H : Hp) (a d : Addr) (ks : List Lk) (m : Nat) (rs : List Pc) (Fp : Addr → Prop) : Prop := ∃ dx kl las ts, H a = some (.ins (He.ga K "Store") dx [("kinds", .ref kl), ("longest", .int m), ("pieces", .ref d)]) ∧ LooksH H kl las ks ∧ H d = some (.dK (kvs rs ts)) ∧ PcsAt H ks rs rs ts ∧ Fp kl ∧ ∀ t b da, t ∈ ts → H t = some (.tup [b, .ref da]) → Fp da
theorem StoreFp.at_ {K : PySem.W.Frag} {H : Hp} {a d : Addr} {ks : List Lk} {m : Nat} {rs : List Pc} {Fp : Addr → Prop} (h : StoreFp K H a d ks m rs Fp) : StoreAt K H a d ks m rs := by
  obtain ⟨dx, kl, las, ts, h1, h2, h3, h4, -⟩ := h
  exact ⟨dx, kl, las, ts, h1, h2, h3, h4⟩
theorem StoreAt.fp {K : PySem.W.Frag} {H : Hp} {a d : Addr} {ks : List Lk} {m : Nat} {rs : List Pc} (h : StoreAt K H a d ks m rs) : StoreFp K H a d ks m rs fun _ => True := by
  obtain ⟨dx, kl, las, ts, h1, h2, h3, h4⟩ := h
  exact ⟨dx, kl, las, ts, h1, h2, h3, h4, trivial, fun _ _ _ _ _ => trivial⟩
theorem StoreFp.keep {K : PySem.W.Frag} {M Fp : Addr → Prop} {H H1 : Hp} {a d : Addr} {ks : List Lk} {m : Nat} {rs : List Pc} (h : StoreFp K H a d ks m rs Fp) (s : SameX M H H1) (hd : ¬ M d) (hF : ∀ b, Fp b → ¬ M b) (hM : ∀ b o, M b → H b = some o → (∃ kv, o = .dK kv) ∨ ∃ xs, o = .lst xs) : StoreFp K H1 a d ks m rs Fp := by
  obtain ⟨dx, kl, las, ts, e, L, ed, P, fk, fd⟩ := h
  have ki : ∀ {b C dx fs}, H b = some (.ins C dx fs) → H1 b = some (.ins C dx fs) := fun {b C dx fs} hb => s.kp b _ (fun z => by rcases hM b _ z hb with ⟨_, q⟩ | ⟨_, q⟩ <;> cases q) hb
  have kt : ∀ {b xs}, H b = some (.tup xs) → H1 b = some (.tup xs) := fun {b xs} hb => s.kp b _ (fun z => by rcases hM b _ z hb with ⟨_, q⟩ | ⟨_, q⟩ <;> cases q) hb
  refine ⟨dx, kl, las, ts, ki e, ⟨s.kp _ _ (hF _ fk) L.lst, L.len, fun i x k hx hk => ?_⟩, s.kp _ _ hd ed, ⟨P.len, fun i t p ht hp => ?_⟩, fk, fun t b da ht et => ?_⟩
  · obtain ⟨c, h1, h2⟩ := L.at_ i x k hx hk
    exact ⟨c, kt h1, kt h2⟩
  · obtain ⟨da, h1, h2⟩ := P.at_ i t p ht hp
    exact ⟨da, kt h1, s.kp _ _ (hF _ (fd t _ da (List.mem_of_getElem? ht) h1)) h2⟩
  · obtain ⟨i, hi⟩ := List.getElem?_of_mem ht
    have il := (List.getElem?_eq_some_iff.mp hi).1
    have pl := P.len
    have hp : rs[i]? = some (rs[i]'(by omega)) := List.getElem?_eq_getElem (by omega)
    obtain ⟨da', h1, h2⟩ := P.at_ i t _ hi hp
    have := kt h1
    rw [et] at this
    cases this
    exact fd t _ da ht h1
theorem StoreFp.same {K : PySem.W.Frag} {Fp : Addr → Prop} {H H1 : Hp} {a d : Addr} {ks : List Lk} {m : Nat} {rs : List Pc} (h : StoreFp K H a d ks m rs Fp) (s : Same H H1) : StoreFp K H1 a d ks m rs Fp := h.keep (M := fun _ => False) (SameX.of s) (fun z => z) (fun _ _ z => z) fun _ _ z => z.elim
theorem StoreFp.mono {K : PySem.W.Frag} {Fp Fp' : Addr → Prop} {H : Hp} {a d : Addr} {ks : List Lk} {m : Nat} {rs : List Pc} (h : StoreFp K H a d ks m rs Fp) (f : ∀ b, Fp b → Fp' b) : StoreFp K H a d ks m rs Fp' := by
  obtain ⟨dx, kl, las, ts, e, L, ed, P, fk, fd⟩ := h
  exact ⟨dx, kl, las, ts, e, L, ed, P, f _ fk, fun t b da ht et => f _ (fd t b da ht et)⟩
/-! Fo, texts made: str(i) -/
def rStrOf : List V → Hp → VK → Prop := fun xs H Q => ∃ i : Int, xs = [.int i] ∧ i.natAbs.log2 < 1920 ∧ Q (.str (toString i)) H
theorem c_str {X : Cx} : CallR X (.type "str") rStrOf := call_str_int
theorem g_strI {i : Int} {H : Hp} {Q : VK} (h : i.natAbs < 2 ^ 1000) (q : Q (.str (toString i)) H) : rStrOf [.int i] H Q := ⟨i, rfl, by
  by_cases z : i.natAbs = 0
  · rw [z]; decide
  · exact Nat.lt_of_lt_of_le ((Nat.log2_lt z).mpr h) (by decide), q⟩
/-! ### tuples, data that is the same -/
theorem g_sameR {K : PySem.W.Frag} {H : Hp} {Q : VK} {x y : V} {d : PyData} (hx : Dp K H x d) (hy : Dp K H y d) (l : d.canLay0 = true) (n : d.depth ≤ 64) (q : Q (.bl true) H) : rSame K x y H Q := by
  have sh : SeqAt.shaped d = true := by
    unfold SeqAt.shaped
    rw [l, Bool.true_and]
    exact decide_eq_true n
  refine .inr ⟨d, d, hx, hy, sh, sh, ?_⟩
  rw [SeqAt.eqv_refl d l]
  exact q
theorem g_diffR {K : PySem.W.Frag} {H : Hp} {Q : VK} {x y : V} {d : PyData} (hx : Dp K H x d) (hy : Dp K H y d) (l : d.canLay0 = true) (n : d.depth ≤ 64) (q : Q (.bl false) H) : rDiff K x y H Q := by
  have sh : SeqAt.shaped d = true := by
    unfold SeqAt.shaped
    rw [l, Bool.true_and]
    exact decide_eq_true n
  refine .inr ⟨d, d, hx, hy, sh, sh, ?_⟩
  rw [SeqAt.eqv_refl d l]
  exact q
theorem g_sameK {K : PySem.W.Frag} {H : Hp} {Q : VK} {x y : V} {d : PyData} {n : Nat} (hx : Dp K H x d) (hy : Dp K H y d) (o : Okd n d) (hn : n ≤ 64) (q : Q (.bl true) H) : rSame K x y H Q := g_sameR hx hy o.lay (Nat.le_trans o.dp hn) q
theorem g_diffK {K : PySem.W.Frag} {H : Hp} {Q : VK} {x y : V} {d : PyData} {n : Nat} (hx : Dp K H x d) (hy : Dp K H y d) (o : Okd n d) (hn : n ≤ 64) (q : Q (.bl false) H) : rDiff K x y H Q := g_diffR hx hy o.lay (Nat.le_trans o.dp hn) q
theorem ty_non {K : PySem.W.Frag} {H : Hp} : TyW K H .non := .inr (.inr ⟨rfl, "NoneType", .base .non, by decide +kernel⟩)
theorem ty_str {K : PySem.W.Frag} {H : Hp} {z : Str} : TyW K H (.str z) := .inr (.inr ⟨rfl, "str", .base (.str _), by decide +kernel⟩)
theorem ty_bl {K : PySem.W.Frag} {H : Hp} {b : Bool} : TyW K H (.bl b) := .inr (.inl ⟨b, rfl⟩)
theorem ty_lst {K : PySem.W.Frag} {H : Hp} {a : Addr} {xs : List V} (h : H a = some (.lst xs)) : TyW K H (.ref a) := .inr (.inr ⟨rfl, "list", .base (.lst h), by decide +kernel⟩)
theorem ty_tup {K : PySem.W.Frag} {H : Hp} {a : Addr} {xs : List V} (h : H a = some (.tup xs)) : TyW K H (.ref a) := .inr (.inr ⟨rfl, "tuple", .base (.tup h), by decide +kernel⟩)
theorem g_on5 {F : V → V → V → V → V → Hp → VK → XK → Prop} {a b c d e : V} {H : Hp} {Q : VK} {E : XK} (q : F a b c d e H Q E) : on5 F ([a, b, c, d, e] ++ []) H Q E := ⟨a, b, c, d, e, rfl, q⟩

/-- xs.insert(n, y) -/
def rInsert : V → List V → Hp → VK → Prop := fun x vs H Q => ∃ l xs, ∃ (n : Nat) (y : V), x = .ref l ∧ vs = [.int n, y] ∧ H l = some (.lst xs) ∧ xs.length ≤ 100000 ∧ n ≤ 100000 ∧ Q .non (upd H l (.lst (xs.take n ++ [y] ++ xs.drop n)))
theorem m_insert {X : Cx} : MtR X "list.insert" rInsert := fun pins s σ H x xs v us Q I rx rs q => by
  obtain ⟨l, ys, n, y, rfl, rfl, h, h1, h2, q⟩ := q
  exact mt_insert pins s σ H _ _ v us Q I rx rs ⟨l, ys, n, y, rfl, rfl, h, Nat.lt_of_le_of_lt h1 (by decide), by omega, Int.lt_of_le_of_lt (b := 100000) (by omega) (by decide), q⟩
theorem g_insert {l : Addr} {xs : List V} {n : Nat} {y : V} {H : Hp} {Q : VK} (h : H l = some (.lst xs)) (h1 : xs.length ≤ 100000) (h2 : n ≤ 100000) (q : Q .non (upd H l (.lst (xs.take n ++ [y] ++ xs.drop n)))) : rInsert (.ref l) [.int n, y] H Q := ⟨l, xs, n, y, rfl, rfl, h, h1, h2, q⟩
/-! Fo, texts by their lists of signs -/
def Cs (l : List Nat) : Str := ⟨l.toArray⟩
theorem Cs_eta (z : Str) : Cs z.cps.toList = z := by
  cases z
  rfl
theorem Cs_len (l : List Nat) : (Cs l).length = l.length := List.size_toArray
theorem Cs_app (a b : List Nat) : Cs a ++ Cs b = Cs (a ++ b) := by
  show (⟨a.toArray ++ b.toArray⟩ : Str) = ⟨(a ++ b).toArray⟩
  simp
theorem Cs_inj {a b : List Nat} (h : Cs a = Cs b) : a = b := by
  have := congrArg (fun z : Str => z.cps.toList) h
  exact this
theorem Cs_cut (l : List Nat) (lo hi : Option Int) : L2.cutS (Cs l) lo hi = Cs (cutL l lo hi) := by
  unfold L2.cutS cutL
  rw [Cs_len]
  rfl
section
variable {K : PySem.W.Frag} {H : Hp} {Q : VK} {a b l : List Nat} {i : Int} {c : Nat} {lo hi : Option Int}
theorem g_plusC (hl : a.length + b.length ≤ sizeLine) (q : Q (.str (Cs (a ++ b))) H) : rPlus K (.str (Cs a)) (.str (Cs b)) H Q :=
  g_plusS (by rw [Cs_len, Cs_len]; exact hl) (by rw [Cs_app]; exact q)
theorem g_slC (hl : l.length ≤ sizeLine) (q : Q (.str (Cs (cutL l lo hi))) H) : rSlS (.str (Cs l)) lo hi H Q := ⟨Cs l, rfl, by rw [Cs_len]; exact hl, by rw [Cs_cut]; exact q⟩
theorem g_ixC (hl : l.length ≤ sizeLine) (h : atI l i = some c) (q : Q (.str (Cs [c])) H) : rIx K (.str (Cs l)) (.int i) H Q := g_ixS (by rw [Cs_len]; exact hl) h q
theorem g_lenC (hl : l.length ≤ sizeLine) (q : Q (.int (l.length : Int)) H) : rLength K [.str (Cs l)] H Q := g_lenS (by rw [Cs_len]; exact hl) (by rw [Cs_len]; exact q)
end
/-- a text so many times -/
def rMulS : R2 := fun x y H Q => ∃ (z : Str) (k : Nat), x = .str z ∧ y = .int k ∧ z.length * k ≤ 100000 ∧ k ≤ 100000 ∧ Q (.str (Cs (List.replicate k z.cps.toList).flatten)) H
theorem op_mulS {X : Cx} : OpR X (binaryOp .Mult) rMulS := by
  intro pins s σ H x y v u Q I rx ry h
  obtain ⟨z, k, rfl, rfl, hz, hk, q⟩ := h
  obtain ⟨t, rfl⟩ := rx
  obtain ⟨t', rfl⟩ := ry
  have key : ∀ z' : Str, z' = Cs (List.replicate k z.cps.toList).flatten → ∀ t tk, EP X pins σ Q (.str z' t) { s with toks := tk } := fun z' e t tk => by
    subst e
    exact ⟨.str _, H, I.tok _, ⟨_, rfl⟩, q⟩
  have fl : ∀ m : Nat, ((List.replicate m z.cps).foldl (· ++ ·) #[]) = ((List.replicate m z.cps.toList).flatten).toArray := fun m => by
    have g : ∀ (m : Nat) (acc : List Nat), (List.replicate m z.cps).foldl (· ++ ·) acc.toArray = (acc ++ (List.replicate m z.cps.toList).flatten).toArray := by
      intro m
      induction m with
      | zero => intro acc; simp
      | succ m ih =>
        intro acc
        rw [List.replicate_succ, List.foldl_cons, List.replicate_succ, List.flatten_cons]
        have e : acc.toArray ++ z.cps = (acc ++ z.cps.toList).toArray := by
          apply Array.ext'
          simp
        rw [e, ih, List.append_assoc]
    have := g m []
    simpa using this
  have sz : sizeLine = 16777216 := PySem.sizeLine_eq
  have hp : ∀ z' : Str, z' = Cs (List.replicate k z.cps.toList).flatten → z'.length ≤ sizeLine := fun z' e => by
    subst e
    rw [Cs_len, List.length_flatten, List.map_replicate, List.sum_replicate_nat, sz, Array.length_toList]
    show k * z.length ≤ _
    rw [Nat.mul_comm]
    omega
  refine P.mul_str ?_ ?_ ?_ ?_
  · rw [decide_eq_false (by omega), decide_eq_false (by omega)]; rfl
  · intro h1 h2 h3
    have k1 : (1 : Int) ≤ (k : Int) := by omega
    have d1 : (2 ^ 63 - 1 : Int) / (k : Int) * (k : Int) + (2 ^ 63 - 1 : Int) % (k : Int) = 2 ^ 63 - 1 := Int.ediv_mul_add_emod ..
    have d2 := Int.emod_lt_of_pos (2 ^ 63 - 1 : Int) (show (0 : Int) < k by omega)
    have z1 : ((2 ^ 63 - 1 : Int) / (k : Int) + 1) * (k : Int) ≤ (z.length : Int) * (k : Int) := Int.mul_le_mul_of_nonneg_right (by omega) (by omega)
    have z2 : ((z.length : Int) * (k : Int)) = ((z.length * k : Nat) : Int) := by rw [Int.natCast_mul]
    rw [Int.add_mul] at z1
    omega
  · intro _ _
    rw [Int.toNat_natCast]
    unfold Builtin.Str.tooLong
    rw [sz]
    exact decide_eq_false (by omega)
  · by_cases h1 : (k : Int) < 1
    · rw [if_pos h1]
      have k0 : k = 0 := by omega
      have e : Str.empty = Cs (List.replicate k z.cps.toList).flatten := by rw [k0]; rfl
      exact ⟨by rw [e]; exact hp _ rfl, key _ e _ _⟩
    · rw [if_neg h1]
      by_cases h2 : ((k : Int) == 1 || z.length == 0) = true
      · rw [if_pos h2]
        rw [Bool.or_eq_true, beq_iff_eq, beq_iff_eq] at h2
        have e : z = Cs (List.replicate k z.cps.toList).flatten := by
          rcases h2 with h2 | h2
          · have : k = 1 := by omega
            rw [this]
            simp [Cs_eta]
          · have z0 : z.cps.toList = [] := List.length_eq_zero_iff.mp (by rw [Array.length_toList]; exact h2)
            rw [z0, List.flatten_replicate_nil]
            rw [← z0, Cs_eta]
        exact ⟨.str _, H, I, ⟨t, by rw [← e]⟩, q⟩
      · rw [if_neg h2, Int.toNat_natCast]
        have e : (⟨(List.replicate k z.cps).foldl (· ++ ·) #[]⟩ : Str) = Cs (List.replicate k z.cps.toList).flatten := by rw [fl k]; rfl
        exact ⟨hp _ e, key _ e _ _⟩
def rTimes2 : R2 := fun x y H Q => rTimes x y H Q ∨ rMulS x y H Q
theorem o_timesS {X : Cx} : OpR X (binaryOp .Mult) rMulS := op_mulS
theorem g_mulC {H : Hp} {Q : VK} {l : List Nat} {k : Nat} (hl : l.length * k ≤ 100000) (hk : k ≤ 100000) (q : Q (.str (Cs (List.replicate k l).flatten)) H) : rMulS (.str (Cs l)) (.int k) H Q := ⟨Cs l, k, rfl, rfl, by rw [Cs_len]; exact hl, hk, q⟩
/-! ### the small letters -/
def abc : List Nat := (List.range 26).map (97 + ·)
theorem abc_is : ("abcdefghijklmnopqrstuvwxyz" : Str) = Cs abc := by decide +kernel
theorem nil_is : ("" : Str) = Cs [] := by decide +kernel
theorem abc_at {k : Nat} (h : k < 26) : atI abc (k : Int) = some (97 + k) := by
  have : abc[k]? = some (97 + k) := by unfold abc; rw [List.getElem?_map, List.getElem?_range h]; rfl
  unfold atI
  rw [show ixN abc.length (k : Int) = some k from ixN_nat (by rw [show abc.length = 26 from rfl]; exact h)]
  exact this
/-! names, plainly -/
def smL (l : List Nat) : Prop := ∀ c ∈ l, 97 ≤ c ∧ c ≤ 122
def nmL (base : List Nat) (a c : Nat) : List Nat := base.take a ++ [97 + c] ++ base.drop a
theorem nmL_len (base : List Nat) (a c : Nat) : (nmL base a c).length = base.length + 1 := by
  unfold nmL
  rw [List.length_append, List.length_append, List.length_take, List.length_drop, List.length_singleton]
  omega
theorem nameOk_of {l : List Nat} (h : smL l) (l1 : 1 ≤ l.length) (l8 : l.length ≤ 8) : nameOk (Cs l) = true := by
  rw [nameOk, Cs_len, decide_eq_true l1, decide_eq_true l8]
  show (true && (true && l.all small)) = true
  rw [Bool.true_and, Bool.true_and]
  refine List.all_eq_true.mpr fun c hc => ?_
  rw [small, decide_eq_true (h c hc).1, decide_eq_true (h c hc).2]
  rfl
theorem nmL_sm {base : List Nat} {a c : Nat} (h : smL base) (hc : c < 26) : smL (nmL base a c) := fun x hx => by
  unfold nmL at hx
  rcases List.mem_append.mp hx with hx | hx
  · rcases List.mem_append.mp hx with hx | hx
    · exact h x (List.mem_of_mem_take hx)
    · rw [List.mem_singleton.mp hx]; omega
  · exact h x (List.mem_of_mem_drop hx)
theorem nmL_inj {base : List Nat} {a c c' : Nat} (e : nmL base a c = nmL base a c') : c = c' := by
  unfold nmL at e
  have := List.append_cancel_right e
  have := List.append_cancel_left this
  have := List.head_eq_of_cons_eq this
  omega
structure NamesOk (n : Nat) (nl : List (List Nat)) : Prop where
  len : nl.length = n
  nd : nl.Nodup
  ok : ∀ l ∈ nl, nameOk (Cs l) = true
theorem nodup_map_range {α : Type} (f : Nat → α) (n : Nat) (h : ∀ i j, i < n → j < n → f i = f j → i = j) : ((List.range n).map f).Nodup := by
  rw [List.nodup_iff_pairwise_ne, List.pairwise_map]
  refine List.Pairwise.imp_of_mem (fun {a b} ha hb hab e => ?_) List.nodup_range
  exact hab (h a b (List.mem_range.mp ha) (List.mem_range.mp hb) e)
theorem NamesOk.of {n : Nat} (f : Nat → List Nat) (h : ∀ i j, i < n → j < n → f i = f j → i = j) (ok : ∀ i, i < n → nameOk (Cs (f i)) = true) : NamesOk n ((List.range n).map f) :=
  ⟨by rw [List.length_map, List.length_range], nodup_map_range f n h, fun l hl => by
    obtain ⟨i, hi, rfl⟩ := List.mem_map.mp hl
    exact ok i (List.mem_range.mp hi)⟩
theorem NamesOk.perm {n : Nat} {nl ml : List (List Nat)} (h : NamesOk n nl) (p : List.Perm nl ml) : NamesOk n ml := ⟨by rw [← p.length_eq]; exact h.len, p.nodup h.nd, fun l hl => h.ok l (p.mem_iff.mpr hl)⟩
theorem NamesOk.rot {n : Nat} {nl : List (List Nat)} (h : NamesOk n nl) (k : Nat) : NamesOk n (nl.drop k ++ nl.take k) := h.perm (by
  have := List.perm_append_comm (l₁ := nl.drop k) (l₂ := nl.take k)
  rw [List.take_append_drop] at this
  exact this.symm)
theorem NamesOk.rev {n : Nat} {nl : List (List Nat)} (h : NamesOk n nl) : NamesOk n nl.reverse := h.perm (List.reverse_perm nl).symm
def nV (nl : List (List Nat)) : List V := nl.map fun l => V.str (Cs l)
theorem nm_at {nl : List (List Nat)} {j : Nat} {n : List Nat} (h : nl[j]? = some n) : atI (nV nl) (j : Int) = some (.str (Cs n)) := atI_nat (by unfold nV; rw [List.getElem?_map, h]; rfl)
theorem NamesOk.at_ {m : Nat} {nl : List (List Nat)} (h : NamesOk m nl) {j : Nat} (hj : j < m) : ∃ n, nl[j]? = some n := ⟨nl[j]'(by rw [h.len]; exact hj), List.getElem?_eq_getElem _⟩
/-- the pieces put so far have the first names, the newest one first -/
def Named (nl : List (List Nat)) (i : Nat) (rs : List Pc) : Prop := rs.map (fun p => p.nm) = ((nl.take i).map Cs).reverse
theorem Named.len {m i : Nat} {nl : List (List Nat)} {rs : List Pc} (h : Named nl i rs) (ok : NamesOk m nl) (hi : i ≤ m) : rs.length = i := by
  have := congrArg List.length h
  rw [List.length_map, List.length_reverse, List.length_map, List.length_take, ok.len] at this
  omega
theorem Named.has {i j : Nat} {nl : List (List Nat)} {rs : List Pc} {n : List Nat} (h : Named nl i rs) (hj : j < i) (hn : nl[j]? = some n) : ∃ p ∈ rs, p.nm = Cs n := by
  have : Cs n ∈ rs.map (fun p => p.nm) := by
    rw [h, List.mem_reverse]
    refine List.mem_map.mpr ⟨n, ?_, rfl⟩
    refine List.mem_of_getElem? (i := j) ?_
    rw [List.getElem?_take, if_pos hj, hn]
  obtain ⟨p, hp, e⟩ := List.mem_map.mp this
  exact ⟨p, hp, e⟩
theorem Named.new {m i : Nat} {nl : List (List Nat)} {rs : List Pc} {n : List Nat} (h : Named nl i rs) (ok : NamesOk m nl) (hn : nl[i]? = some n) : ∀ p ∈ rs, p.nm ≠ Cs n := fun p hp e => by
  have : Cs n ∈ rs.map (fun p => p.nm) := List.mem_map.mpr ⟨p, hp, e⟩
  rw [h, List.mem_reverse] at this
  obtain ⟨n', hn', e'⟩ := List.mem_map.mp this
  have := Cs_inj e'
  subst this
  obtain ⟨j, hj⟩ := List.getElem?_of_mem hn'
  rw [List.getElem?_take] at hj
  split at hj
  · rename_i lt
    have := (List.getElem?_inj (List.getElem?_eq_some_iff.mp hj).1 ok.nd).mp (hj.trans hn.symm)
    omega
  · cases hj
theorem Named.step {i : Nat} {nl : List (List Nat)} {rs : List Pc} {n : List Nat} {p : Pc} (h : Named nl i rs) (hn : nl[i]? = some n) (e : p.nm = Cs n) : Named nl (i + 1) (p :: rs) := by
  unfold Named at *
  rw [List.map_cons, h, e, List.take_add_one, hn, List.map_append, List.reverse_append]
  rfl
theorem Named.top {i : Nat} {nl : List (List Nat)} {rs : List Pc} {n : List Nat} {p : Pc} (h : Named nl (i + 1) (p :: rs)) (hn : nl[i]? = some n) : p.nm = Cs n ∧ Named nl i rs := by
  unfold Named at *
  rw [List.map_cons, List.take_add_one, hn, List.map_append, List.reverse_append] at h
  exact ⟨List.head_eq_of_cons_eq h, List.tail_eq_of_cons_eq h⟩
/-! names as k41 draws them -/
def F_Lnames (K : PySem.W.Frag) : V → V → Hp → VK → XK → Prop := fun x y H Q _ => ∃ (n : Int) (m : Nat), x = .int n ∧ y = .int m ∧ 0 ≤ n ∧ 1 ≤ m ∧ m ≤ 9 ∧ ∀ l nl H', NamesOk m nl → H l = none → Same H H' → H' l = some (.lst (nV nl)) → Q (.ref l) H'
abbrev sp_Lnames (K : PySem.W.Frag) : Sp := on2 (F_Lnames K)
def t_Lnames (K : PySem.W.Frag) (E : XK) : TS :=
  tSeq (tAsg (tC (.str "abcdefghijklmnopqrstuvwxyz")) (gName 2))
  (tSeq (tAsg (tOp (rRest) (tVar 0) (tC (.int 17))) (gName 3))
  (tSeq (tAsg (tOp (rFloor) (tVar 0) (tC (.int 17))) (gName 0))
  (tSeq (tAsg (tC (.str "")) (gName 4))
  (tSeq (tFor (iRng1 (tCons (tOp (rRest) (tVar 0) (tC (.int 8))) (tNil))) (gName 5) (tAsg (tOp (rPlus K) (tVar 4) (tOp (rIx K) (tVar 2) (tOp (rRest) (tOp (rFloor) (tOp (rTimes) (tVar 0) (tOp (rPlus K) (tVar 5) (tC (.int 3)))) (tC (.int 7))) (tC (.int 26))))) (gName 4)))
  (tSeq (tAsg (tOp (rRest) (tOp (rFloor) (tVar 0) (tC (.int 8))) (tOp (rPlus K) (tCB (rLength K) (tCons (tVar 4) (tNil))) (tC (.int 1)))) (gName 6))
  (tSeq (tAsg (tLc (iRng1 (tCons (tVar 1) (tNil))) (gName 5) (tYes) (tOp (rPlus K) (tOp (rPlus K) (tSl (rSlS) (tVar 4) (tNoPart) (tPart (tVar 6))) (tOp (rIx K) (tVar 2) (tOp (rPlus K) (tVar 3) (tVar 5)))) (tSl (rSlS) (tVar 4) (tPart (tVar 6)) (tNoPart))) [5]) (gName 7))
  (tSeq (tAsg (tOp (rRest) (tOp (rFloor) (tVar 0) (tC (.int 72))) (tVar 1)) (gName 8))
  (tSeq (tAsg (tOp (rPlus K) (tSl (rSlL K) (tVar 7) (tPart (tVar 8)) (tNoPart)) (tSl (rSlL K) (tVar 7) (tNoPart) (tPart (tVar 8)))) (gName 7))
  (tSeq (tIfS (tTest (tOp (rSame K) (tOp (rRest) (tOp (rFloor) (tVar 0) (tC (.int 700))) (tC (.int 2))) (tC (.int 1)))) (tDrop (tBM0 K "list" (rReverse) (tVar 7))) (tNext))
  (tRet (tVar 7)))))))))))
theorem pure_Lnames (K : PySem.W.Frag) {x y : V} {H : Hp} {Q : VK} {E : XK} (h : F_Lnames K x y H Q E) : t_Lnames K E ⟨fun _ H' => Q .non H', Q, fun _ _ => False, fun _ _ => False⟩ [some x, some y, none, none, none, none, none, none, none] H := by
  obtain ⟨n, m, rfl, rfl, n0, m1, m9, q⟩ := h
  unfold t_Lnames
  rw [abc_is, nil_is]
  walk_at "gn"
  have o0 := Int.emod_nonneg n (show (17 : Int) ≠ 0 by decide)
  have o1 := Int.emod_lt_of_pos n (show (0 : Int) < 17 by decide)
  obtain ⟨od, ho⟩ : ∃ od : Nat, n % 17 = (od : Int) := ⟨(n % 17).toNat, by omega⟩
  have n1 : 0 ≤ n / 17 := Int.ediv_nonneg n0 (by decide)
  rw [ho]
  generalize n / 17 = c at n1
  have c8 : 0 ≤ c % 8 ∧ c % 8 < 8 := by omega
  refine for_R1 (k := (c % 8).toNat) (by omega) (by omega) (fun i σ H1 => ∃ u5, ∃ bl : List Nat, σ = [some (.int c), some (.int m), some (.str (Cs abc)), some (.int od), some (.str (Cs bl)), u5, none, none, none] ∧ H1 = H ∧ smL bl ∧ bl.length = i) ⟨_, [], rfl, rfl, (fun c h => nomatch h), rfl⟩ ?_ ?_
  · rintro i σ H1 hi ⟨u5, bl, rfl, rfl, sm, bn⟩
    walk_at "gn"
    generalize hw : c * ((i : Int) + 3) / 7 % 26 = w
    have w0 : 0 ≤ w ∧ w < 26 := by omega
    obtain ⟨k, rfl⟩ : ∃ k : Nat, w = (k : Int) := ⟨w.toNat, by omega⟩
    refine g_ixC (by show 26 ≤ sizeLine; decide) (abc_at (by omega)) ?_
    walk_at "gn"
    refine g_plusC (Nat.le_trans (m := 20) (by rw [List.length_singleton]; omega) (by decide)) ?_
    walk_at "gn"
    refine ⟨_, _, rfl, rfl, fun x hx => ?_, by rw [List.length_append, bn]; rfl⟩
    rcases List.mem_append.mp hx with hx | hx
    · exact sm x hx
    · rw [List.mem_singleton.mp hx]; omega
  · rintro σ H1 ⟨u5, bl, rfl, rfl, sm, bn⟩
    have b7 : bl.length ≤ 7 := by omega
    walk_at "gn"
    refine g_lenC (Nat.le_trans (m := 20) (by omega) (by decide)) ?_
    walk_at "gn"
    refine g_rest (by omega) ?_
    have a0 := Int.emod_nonneg (c / 8) (show ((bl.length : Int) + 1) ≠ 0 by omega)
    have a1 := Int.emod_lt_of_pos (c / 8) (show (0 : Int) < (bl.length : Int) + 1 by omega)
    obtain ⟨a, ha⟩ : ∃ a : Nat, c / 8 % ((bl.length : Int) + 1) = (a : Int) := ⟨(c / 8 % ((bl.length : Int) + 1)).toNat, by omega⟩
    rw [ha] at a1 ⊢
    walk_at "gn"
    refine lc_R1 (k := m) rfl (fun i => V.str (Cs (nmL bl a (od + i)))) (by omega) (fun i hi D H2 Q2 s2 k2 => ?_) fun D H2 nD s2 eD => ?_
    · walk_at "gn"
      refine g_slC (Nat.le_trans (m := 20) (by omega) (by decide)) ?_
      rw [cutL_to]
      walk_at "gn"
      refine g_ixC (by show 26 ≤ sizeLine; decide) (abc_at (k := od + i) (by omega)) ?_
      walk_at "gn"
      refine g_plusC (Nat.le_trans (m := 20) (by rw [List.length_singleton, List.length_take]; omega) (by decide)) ?_
      walk_at "gn"
      refine g_slC (Nat.le_trans (m := 20) (by omega) (by decide)) ?_
      rw [cutL_from]
      refine g_plusC (Nat.le_trans (m := 20) (by rw [List.length_append, List.length_singleton, List.length_take, List.length_drop]; omega) (by decide)) ?_
      exact k2 _ (Same.refl _)
    · have ok : NamesOk m ((List.range m).map fun i => nmL bl a (od + i)) := .of _ (fun i j _ _ e => by have := nmL_inj e; omega) fun i hi => nameOk_of (nmL_sm sm (by omega)) (by rw [nmL_len]; omega) (by rw [nmL_len]; omega)
      replace eD : H2 D = some (.lst (((List.range m).map fun i => nmL bl a (od + i)).map fun l => V.str (Cs l))) := by rw [eD, List.map_map]; rfl
      have ml : ((List.range m).map fun i => nmL bl a (od + i)).length = m := ok.len
      generalize ((List.range m).map fun i => nmL bl a (od + i)) = nl at ok eD ml
      walk_at "gn"
      refine g_rest (by omega) ?_
      have d0 := Int.emod_nonneg (c / 72) (show (m : Int) ≠ 0 by omega)
      have d1 := Int.emod_lt_of_pos (c / 72) (show (0 : Int) < m by omega)
      obtain ⟨k, hk⟩ : ∃ k : Nat, c / 72 % (m : Int) = (k : Int) := ⟨(c / 72 % (m : Int)).toNat, by omega⟩
      rw [hk] at d1 ⊢
      walk_at "gn"
      rename_i p1 np1 p2 np2 r nr
      have ok2 := ok.rot k
      generalize nl.drop k ++ nl.take k = rl at ok2 ⊢
      have S := same_new (u := .lst ((nl.take k).map fun l => V.str (Cs l))) (same_new (u := .lst ((nl.drop k).map fun l => V.str (Cs l))) s2 np1) np2
      have nrH := S.free nr
      replace S := same_new (u := .lst (rl.map fun l => V.str (Cs l))) S nr
      have er : (upd (upd (upd H2 p1 (.lst ((nl.drop k).map fun l => V.str (Cs l)))) p2 (.lst ((nl.take k).map fun l => V.str (Cs l)))) r (.lst (rl.map fun l => V.str (Cs l)))) r = some (.lst (rl.map fun l => V.str (Cs l))) := upd_same
      generalize upd (upd (upd H2 p1 (.lst ((nl.drop k).map fun l => V.str (Cs l)))) p2 (.lst ((nl.take k).map fun l => V.str (Cs l)))) r (.lst (rl.map fun l => V.str (Cs l))) = H4 at er S ⊢
      refine dif (fun h => ?_) fun h => ?_
      · walk_at "gn"
        exact q r rl.reverse _ ok2.rev nrH (same_mut S nrH) (by rw [upd_same]; unfold nV; rw [List.map_reverse])
      · walk_at "gn"
        exact q r rl H4 ok2 nrH S er
/-! the laws' looks and texts, k30 and on -/
def Byts' (d : List Int) : Prop := ∀ z ∈ d, 0 ≤ z ∧ z ≤ 255
theorem ix_at {ns : List Int} {k : Nat} {z : Int} (h : ns[k]? = some z) : atI (ns.map V.int) (k : Int) = some (.int z) := atI_nat (by rw [List.getElem?_map, h]; rfl)
section
variable (K : PySem.W.Frag)
def F_Lmixed (K : PySem.W.Frag) : V → V → Hp → VK → XK → Prop := fun x y H Q _ => ∃ (a : Addr) (ns : List Int) (k : Int), x = .ref a ∧ y = .int k ∧ 0 ≤ k ∧ k ≤ 100000 ∧ SqL K H a (ns.map V.int) ∧ ∀ v : Int, 0 ≤ v → Q (.int v) H
abbrev sp_Lmixed (K : PySem.W.Frag) : Sp := on2 (F_Lmixed K)
def t_Lmixed (K : PySem.W.Frag) (E : XK) : TS :=
  tSeq (tAsg (tC (.int 0)) (gName 2))
  (tSeq (tIfS (tTest (tOp (iLt) (tVar 1) (tCB (rLength K) (tCons (tVar 0) (tNil))))) (tAsg (tOp (rRest) (tOp (rIx K) (tVar 0) (tVar 1)) (tC (.int 2147483629))) (gName 2)) (tNext))
  (tRet (tOp (rRest) (tOp (rTimes) (tOp (rPlus K) (tOp (rPlus K) (tOp (rPlus K) (tOp (rTimes) (tVar 2) (tVar 2)) (tOp (rTimes) (tC (.int 3)) (tVar 2))) (tOp (rTimes) (tOp (rTimes) (tC (.int 5)) (tVar 1)) (tVar 1))) (tC (.int 17))) (tC (.int 69621))) (tC (.int 2147483647)))))
theorem pure_Lmixed {x y : V} {H : Hp} {Q : VK} {E : XK} (h : F_Lmixed K x y H Q E) : t_Lmixed K E ⟨fun _ H' => Q .non H', Q, fun _ _ => False, fun _ _ => False⟩ [some x, some y, none] H := by
  obtain ⟨a, ns, k, rfl, rfl, hk, hk2, hs, q⟩ := h
  unfold t_Lmixed
  walk_at "go"
  rw [List.length_map]
  refine dif (fun h => ?_) fun h => ?_
  · walk_at "go"
    have e : k = ((k.toNat : Nat) : Int) := by omega
    rw [e]
    refine g_ixL hs (ix_ints (by omega)) ?_
    walk_at "go"
    exact q _ (by omega)
  · walk_at "go"
    exact q _ (by omega)
theorem three' {w : Int} : ∃ kind : Str, atI [V.str "even", V.str "quick", V.str "run"] (w % 3) = some (.str kind) ∧ (kind = "even" ∨ kind = "quick" ∨ kind = "run") := by
  have h : w % 3 = 0 ∨ w % 3 = 1 ∨ w % 3 = 2 := by omega
  rcases h with h | h | h <;> rw [h]
  · exact ⟨_, rfl, .inl rfl⟩
  · exact ⟨_, rfl, .inr (.inl rfl)⟩
  · exact ⟨_, rfl, .inr (.inr rfl)⟩
/-- some of 1 to 8, rising, the first four -/
theorem plc_filter (p : Nat → Bool) : Plc ((((List.range 8).filter p).map fun (i : Nat) => (1 : Int) + (i : Int)).take 4) := by
  refine ⟨by rw [List.length_take]; omega, fun z hz => ?_, ?_⟩
  · obtain ⟨i, hi, rfl⟩ := List.mem_map.mp (List.mem_of_mem_take hz)
    have := List.mem_range.mp (List.mem_filter.mp hi).1
    omega
  · refine List.Pairwise.sublist (List.take_sublist _ _) ?_
    rw [List.pairwise_map]
    refine List.Pairwise.imp (R := (· < ·)) (fun h => by omega) (List.Pairwise.filter p List.pairwise_lt_range)
theorem LooksH.snoc {H : Hp} {l a : Addr} {las : List Addr} {ks : List Lk} {k : Lk} (h : LooksH H l las ks) (e : LookH H a k) : LooksH (upd H l (.lst (las.map V.ref ++ [.ref a]))) l (las ++ [a]) (ks ++ [k]) := by
  have nl : ∀ {x : Addr} {xs : List V}, H x = some (.tup xs) → x ≠ l := fun z => ne_kind z h.lst (by intro z; cases z)
  have up : ∀ {x : Addr} {k : Lk}, LookH H x k → LookH (upd H l (.lst (las.map V.ref ++ [.ref a]))) x k := fun ⟨b, h1, h2⟩ => ⟨b, lk_mut (nl h1) h1, lk_mut (nl h2) h2⟩
  have ll := h.len
  refine ⟨by rw [upd_same, List.map_append]; rfl, by rw [List.length_append, List.length_append, ll]; rfl, fun i x y hx hy => ?_⟩
  rw [List.getElem?_append] at hx hy
  split at hx
  · rename_i c
    rw [if_pos (by omega)] at hy
    exact up (h.at_ i x y hx hy)
  · rename_i c
    rw [if_neg (by omega)] at hy
    have hi := (List.getElem?_eq_some_iff.mp hx).1
    rw [List.length_singleton] at hi
    have z : i = las.length := by omega
    subst z
    rw [Nat.sub_self] at hx
    rw [ll, Nat.sub_self] at hy
    cases hx
    cases hy
    exact up e
def F_Llooks (K : PySem.W.Frag) : V → V → Hp → VK → XK → Prop := fun x y H Q _ => ∃ (n : Int) (m : Nat), x = .int n ∧ y = .int m ∧ 1 ≤ m ∧ m ≤ 6 ∧ ∀ l las ks H', LksOk ks → ks.length ≤ m → H l = none → Same H H' → LooksH H' l las ks → Q (.ref l) H'
abbrev sp_Llooks (K : PySem.W.Frag) : Sp := on2 (F_Llooks K)
def t_Llooks (K : PySem.W.Frag) (E : XK) : TS :=
  tSeq (tAsg (tOp (rPlus K) (tC (.int 1)) (tOp (rRest) (tVar 0) (tVar 1))) (gName 2))
  (tSeq (tAsg (tLst (tNil)) (gName 3))
  (tSeq (tFor (iRng1 (tCons (tVar 2) (tNil))) (gName 4) (tSeq (tAsg (tOp (rRest) (tOp (rPlus K) (tOp (rPlus K) (tOp (rTimes) (tVar 0) (tC (.int 48271))) (tOp (rTimes) (tC (.int 11)) (tVar 4))) (tC (.int 7))) (tC (.int 2147483647))) (gName 0))
  (tSeq (tAsg (tOp (rBits) (tOp (rRest) (tOp (rFloor) (tVar 0) (tC (.int 3))) (tC (.int 256))) (tOp (rRest) (tOp (rFloor) (tVar 0) (tC (.int 1021))) (tC (.int 256)))) (gName 5))
  (tSeq (tIfS (tTest (tOp (rSame K) (tOp (rRest) (tOp (rFloor) (tVar 0) (tC (.int 300000))) (tC (.int 5))) (tC (.int 0)))) (tAsg (tOp (rRest) (tOp (rFloor) (tVar 0) (tC (.int 3))) (tC (.int 256))) (gName 5)) (tNext))
  (tSeq (tAsg (tLc (iRng2 (tCons (tC (.int 1)) (tCons (tC (.int 9)) (tNil)))) (gName 7) (tTest (tOp (rSame K) (tOp (rMask) (tOp (rRsh) (tVar 5) (tOp (rMinus) (tVar 7) (tC (.int 1)))) (tC (.int 1))) (tC (.int 1)))) (tVar 7) [7]) (gName 6))
  (tDrop (tBM K "list" (rAppend) (tVar 3) (tCons (tTup (tCons (tOp (rIx K) (tLst (tCons (tC (.str "even")) (tCons (tC (.str "quick")) (tCons (tC (.str "run")) (tNil))))) (tOp (rRest) (tVar 0) (tC (.int 3)))) (tCons (tCB (rTupleOf K) (tCons (tSl (rSlL K) (tVar 6) (tNoPart) (tPart (tC (.int 4)))) (tNil))) (tNil)))) (tNil)))))))))
  (tRet (tVar 3))))
theorem pure_Llooks {x y : V} {H : Hp} {Q : VK} {E : XK} (h : F_Llooks K x y H Q E) : t_Llooks K E ⟨fun _ H' => Q .non H', Q, fun _ _ => False, fun _ _ => False⟩ [some x, some y, none, none, none, none, none, none] H := by
  obtain ⟨n, m, rfl, rfl, m1, m6, q⟩ := h
  unfold t_Llooks
  walk_at "go"
  refine g_rest (by omega) ?_
  have b0 := Int.emod_nonneg n (show (m : Int) ≠ 0 by omega)
  have b1 := Int.emod_lt_of_pos n (show (0 : Int) < m by omega)
  generalize n % (m : Int) = w at b0 b1
  walk_at "go"
  intro l nl
  walk_at "go"
  refine for_R1 (k := (1 + w).toNat) (by omega) (by omega) (fun i σ H1 => ∃ v u4 u5 u6, ∃ las : List Addr, ∃ ks : List Lk, σ = [some (.int v), some (.int m), some (.int (1 + w)), some (.ref l), u4, u5, u6, none] ∧ Same H H1 ∧ LooksH H1 l las ks ∧ ks.length = i ∧ ∀ k ∈ ks, LkOk k) ?_ ?_ ?_
  · exact ⟨n, _, _, _, [], [], rfl, same_new (Same.refl _) nl, ⟨upd_same, rfl, fun i a k h _ => by simp at h⟩, rfl, fun k h => nomatch h⟩
  · rintro i σ H1 hi ⟨v, u4, u5, u6, las, ks, rfl, S, L, kl, kok⟩
    have ll := L.len
    have tail : ∀ (v : Int) (u5 : Int) H2 bk ct, Same H H2 → LooksH H2 l las ks → (tSeq (tAsg (tLc (iRng2 (tCons (tC (.int 1)) (tCons (tC (.int 9)) (tNil)))) (gName 7) (tTest (tOp (rSame K) (tOp (rMask) (tOp (rRsh) (tVar 5) (tOp (rMinus) (tVar 7) (tC (.int 1)))) (tC (.int 1))) (tC (.int 1)))) (tVar 7) [7]) (gName 6))
        (tDrop (tBM K "list" (rAppend) (tVar 3) (tCons (tTup (tCons (tOp (rIx K) (tLst (tCons (tC (.str "even")) (tCons (tC (.str "quick")) (tCons (tC (.str "run")) (tNil))))) (tOp (rRest) (tVar 0) (tC (.int 3)))) (tCons (tCB (rTupleOf K) (tCons (tSl (rSlL K) (tVar 6) (tNoPart) (tPart (tC (.int 4)))) (tNil))) (tNil)))) (tNil)))))
        ⟨fun σ H1 => ∃ v u4 u5 u6, ∃ las : List Addr, ∃ ks : List Lk, σ = [some (.int v), some (.int m), some (.int (1 + w)), some (.ref l), u4, u5, u6, none] ∧ Same H H1 ∧ LooksH H1 l las ks ∧ ks.length = i + 1 ∧ ∀ k ∈ ks, LkOk k, Q, bk, ct⟩ [some (.int v), some (.int m), some (.int (1 + w)), some (.ref l), some (.int (i : Int)), some (.int u5), u6, none] H2 := by
      intro v u5 H2 bk ct S2 L2
      walk_at "go"
      refine lc_R2F (k := 8) (by decide) (by decide) (by decide) (fun i => decide (u5 / 2 ^ i % 2 = 1)) (fun i => .int (1 + (i : Int))) (fun i hi H3 A B s3 ha hb => ?_) fun D H3 nD s3 eD => ?_
      · walk_at "go"
        refine g_rsh (by omega) ?_
        rw [show (1 + (i : Int) - 1).toNat = i by omega]
        walk_at "go"
        refine dif (fun h => ?_) fun h => ?_
        · walk_at "go"
          exact ha (decide_eq_true h) _ (Same.refl _)
        · exact hb (decide_eq_false h) _ (Same.refl _)
      · have eD : H3 D = some (.lst ((((List.range 8).filter fun i => decide (u5 / 2 ^ i % 2 = 1)).map fun (i : Nat) => (1 : Int) + (i : Int)).map V.int)) := by rw [eD, List.map_map]; rfl
        have P := plc_filter fun i => decide (u5 / 2 ^ i % 2 = 1)
        generalize (((List.range 8).filter fun i => decide (u5 / 2 ^ i % 2 = 1)).map fun (i : Nat) => (1 : Int) + (i : Int)) = ps at eD P
        have L3 := L2.same s3
        have S3 := Same.trans S2 s3
        clear s3 nD L2 S2
        have hl0 := L3.lst
        walk_at "go"
        intro t nt
        walk_at "go"
        obtain ⟨kind, ek, hk⟩ := three' (w := v)
        clear hl0
        refine g_ixL (sq_of upd_same) ek ?_
        have et : (upd H3 t (.lst [V.str "even", V.str "quick", V.str "run"])) t = some (.lst [V.str "even", V.str "quick", V.str "run"]) := upd_same
        have eD := lk_new (u := .lst [V.str "even", V.str "quick", V.str "run"]) eD nt
        have L3 := L3.same (same_new (u := .lst [V.str "even", V.str "quick", V.str "run"]) (Same.refl _) nt)
        have S3 := same_new (u := .lst [V.str "even", V.str "quick", V.str "run"]) S3 nt
        generalize upd H3 t (.lst [V.str "even", V.str "quick", V.str "run"]) = H4 at et eD L3 S3
        clear nt
        walk_at "go"
        intro c nc
        have ec : (upd H4 c (.lst (cutV (ps.map V.int) none (some 4)))) c = some (.lst ((ps.take 4).map V.int)) := by rw [upd_same, cutV_map, show (some (4 : Int)) = some ((4 : Nat) : Int) from rfl, cutL_to]
        have L3 := L3.same (same_new (u := (.lst (cutV (ps.map V.int) none (some 4)))) (Same.refl _) nc)
        have S3 := same_new (u := (.lst (cutV (ps.map V.int) none (some 4)))) S3 nc
        generalize upd H4 c (.lst (cutV (ps.map V.int) none (some 4))) = H5 at ec L3 S3
        walk_at "go"
        intro tp ntp
        have etp : (upd H5 tp (.tup ((ps.take 4).map V.int))) tp = some (.tup ((ps.take 4).map V.int)) := upd_same
        have L3 := L3.same (same_new (u := .tup ((ps.take 4).map V.int)) (Same.refl _) ntp)
        have S3 := same_new (u := .tup ((ps.take 4).map V.int)) S3 ntp
        generalize upd H5 tp (.tup ((ps.take 4).map V.int)) = H6 at etp L3 S3
        clear ntp
        walk_at "go"
        intro lk nlk
        have elk : (upd H6 lk (.tup [.str kind, .ref tp])) lk = some (.tup [.str kind, .ref tp]) := upd_same
        have etp := lk_new (u := .tup [.str kind, .ref tp]) etp nlk
        have L3 := L3.same (same_new (u := .tup [.str kind, .ref tp]) (Same.refl _) nlk)
        have S3 := same_new (u := .tup [.str kind, .ref tp]) S3 nlk
        generalize upd H6 lk (.tup [.str kind, .ref tp]) = H7 at elk etp L3 S3
        clear nlk
        have hl := L3.lst
        walk_at "go"
        exact ⟨v, _, _, _, las ++ [lk], ks ++ [(kind, ps.take 4)], rfl, same_mut S3 nl, L3.snoc ⟨tp, elk, etp⟩, by rw [List.length_append, kl]; rfl, fun k hk' => by
          rcases List.mem_append.mp hk' with z | z
          · exact kok k z
          · rw [List.mem_singleton.mp z]
            exact ⟨hk, P⟩⟩
    walk_at "go"
    refine dif (fun h => ?_) fun h => ?_
    · walk_at "go"
      exact tail _ _ _ _ _ S L
    · walk_at "go"
      exact tail _ _ _ _ _ S L
  · rintro σ H1 ⟨v, u4, u5, u6, las, ks, rfl, S, L, kl, kok⟩
    walk_at "go"
    exact q l las ks H1 ⟨by omega, by omega, kok⟩ (by omega) nl S L
def F_Ltext (K : PySem.W.Frag) : V → V → V → Hp → VK → XK → Prop := fun x y z H Q _ => ∃ (a : Addr) (cs : List Int) (m : Nat) (w : Int), x = .ref a ∧ y = .int m ∧ z = .int w ∧ SqL K H a (cs.map V.int) ∧ cs.length ≤ 1000 ∧ m ≤ 200 ∧ ∀ l ns H', H l = none → Same H H' → H' l = some (.lst (ns.map V.int)) → TextOk 1000 ns → ns.length = m → Q (.ref l) H'
abbrev sp_Ltext (K : PySem.W.Frag) : Sp := on3 (F_Ltext K)
def F_Llearned (K : PySem.W.Frag) : V → V → V → V → Hp → VK → XK → Prop := fun x y z u H Q _ => ∃ (a : Addr) (ns : List Int) (k m mm : Nat), x = .ref a ∧ y = .int k ∧ z = .int m ∧ u = .int mm ∧ SqL K H a (ns.map V.int) ∧ k ≤ 1000 ∧ m ≤ 10 ∧ mm ≤ 100 ∧
  ∀ l tas ts H', H l = none → Same H H' → TextsH H' l tas ts → TsOk ts → ts.length = m → (∀ t ∈ ts, t.length ≤ mm) → Q (.ref l) H'
abbrev sp_Llearned (K : PySem.W.Frag) : Sp := on4 (F_Llearned K)
theorem TextsH.snoc {H : Hp} {l a : Addr} {tas : List Addr} {ts : List (List Int)} {t : List Int} (h : TextsH H l tas ts) (e : H a = some (.lst (t.map V.int))) (nl : ∀ x ∈ tas, x ≠ l) (na : a ≠ l) : TextsH (upd H l (.lst (tas.map V.ref ++ [.ref a]))) l (tas ++ [a]) (ts ++ [t]) := by
  have ll := h.len
  refine ⟨by rw [upd_same, List.map_append]; rfl, by rw [List.length_append, List.length_append, ll]; rfl, fun i x y hx hy => ?_⟩
  rw [List.getElem?_append] at hx hy
  split at hx
  · rename_i c
    rw [if_pos (by omega)] at hy
    exact lk_mut (nl x (List.mem_of_getElem? hx)) (h.at_ i x y hx hy)
  · rename_i c
    rw [if_neg (by omega)] at hy
    have hi := (List.getElem?_eq_some_iff.mp hx).1
    rw [List.length_singleton] at hi
    have z : i = tas.length := by omega
    subst z
    rw [Nat.sub_self] at hx
    rw [ll, Nat.sub_self] at hy
    cases hx
    cases hy
    exact lk_mut na e
def F_Lbytes (K : PySem.W.Frag) : V → Hp → VK → XK → Prop := fun x H Q _ => ∃ (a : Addr) (ns : List Int), x = .ref a ∧ H a = some (.lst (ns.map V.int)) ∧ Byts' ns ∧ Q (.bl true) H
abbrev sp_Lbytes (K : PySem.W.Frag) : Sp := on1 (F_Lbytes K)
end
/-! looks and texts as data; copies -/
def dLk (k : Lk) : PyData := .tuple [.str k.1, .tuple (k.2.map PyData.int)]
def dLks (ks : List Lk) : PyData := .list (ks.map dLk)
def dTs (ts : List (List Int)) : PyData := .list (ts.map fun t => .list (t.map PyData.int))
theorem okd_nil {n : Nat} : ∀ d ∈ ([] : List PyData), Okd n d := fun d h => nomatch h
theorem okd_cons {n : Nat} {d : PyData} {ds : List PyData} (h : Okd n d) (hs : ∀ x ∈ ds, Okd n x) : ∀ x ∈ d :: ds, Okd n x := fun x hx => by
  rcases List.mem_cons.mp hx with rfl | hx
  · exact h
  · exact hs x hx
theorem Okd.mono {n m : Nat} {d : PyData} (h : Okd n d) (hm : n ≤ m) : Okd m d := ⟨h.lay, h.cl, Nat.le_trans h.dp hm⟩
theorem okd_lk {k : Lk} (h : LkOk k) : Okd 2 (dLk k) := by
  refine okd_tup (okd_cons (okd_str ?_) (okd_cons (okd_tup okd_ints) okd_nil))
  rcases h.kind with z | z | z <;> rw [z] <;> decide +kernel
theorem okd_lks {ks : List Lk} (h : LksOk ks) : Okd 3 (dLks ks) := okd_lst fun d hd => by
  obtain ⟨k, hk, rfl⟩ := List.mem_map.mp hd
  exact okd_lk (h.all k hk)
theorem okd_ts {ts : List (List Int)} : Okd 2 (dTs ts) := okd_lst fun d hd => by
  obtain ⟨t, _, rfl⟩ := List.mem_map.mp hd
  exact okd_lst okd_ints
theorem LookH.dp {K : PySem.W.Frag} {H : Hp} {a : Addr} {k : Lk} (h : LookH H a k) : Dp K H (.ref a) (dLk k) := by
  obtain ⟨b, h1, h2⟩ := h
  exact .tup (stt_of h1) (.cons (.str _) (.cons (.tup (stt_of h2) dpAll_ints) .nil))
theorem dpAll_of {α : Type} {K : PySem.W.Frag} {H : Hp} {f : α → PyData} : ∀ {as : List Addr} {xs : List α}, as.length = xs.length → (∀ (i : Nat) a x, as[i]? = some a → xs[i]? = some x → Dp K H (.ref a) (f x)) → DpAll K H (as.map V.ref) (xs.map f)
  | [], [], _, _ => .nil
  | [], _ :: _, h, _ => by simp at h
  | _ :: _, [], h, _ => by simp at h
  | a :: as, x :: xs, h, g => .cons (g 0 a x rfl rfl) (dpAll_of (by simpa using h) fun i b y hb hy => g (i + 1) b y (by simpa using hb) (by simpa using hy))
theorem LooksH.dp {K : PySem.W.Frag} {H : Hp} {l : Addr} {las : List Addr} {ks : List Lk} (h : LooksH H l las ks) : Dp K H (.ref l) (dLks ks) := .lst (sq_of h.lst) (dpAll_of h.len fun i a x ha hx => (h.at_ i a x ha hx).dp)
theorem TextsH.dp {K : PySem.W.Frag} {H : Hp} {l : Addr} {tas : List Addr} {ts : List (List Int)} (h : TextsH H l tas ts) : Dp K H (.ref l) (dTs ts) := .lst (sq_of h.lst) (dpAll_of h.len fun i a x ha hx => .lst (sq_of (h.at_ i a x ha hx)) dpAll_ints)
theorem dp_ints {K : PySem.W.Frag} {H : Hp} {l : Addr} {ns : List Int} (h : H l = some (.lst (ns.map V.int))) : Dp K H (.ref l) (.list (ns.map PyData.int)) := .lst (sq_of h) dpAll_ints
/-- looks, a text (or bytes), learned texts, as a law holds them -/
structure Hand3 (H : Hp) (h l t u : Addr) (las : List Addr) (ks : List Lk) (ns : List Int) (tas : List Addr) (ts : List (List Int)) : Prop where
  lst : H h = some (.lst [.ref l, .ref t, .ref u])
  lk : LooksH H l las ks
  tx : H t = some (.lst (ns.map V.int))
  ln : TextsH H u tas ts
theorem Hand3.same {H H1 : Hp} {h l t u : Addr} {las : List Addr} {ks : List Lk} {ns : List Int} {tas : List Addr} {ts : List (List Int)} (p : Hand3 H h l t u las ks ns tas ts) (s : Same H H1) : Hand3 H1 h l t u las ks ns tas ts := ⟨s _ _ p.lst, p.lk.same s, s _ _ p.tx, p.ln.same s⟩
def dH3 (ks : List Lk) (ns : List Int) (ts : List (List Int)) : PyData := .list [dLks ks, .list (ns.map PyData.int), dTs ts]
theorem Hand3.dp {K : PySem.W.Frag} {H : Hp} {h l t u : Addr} {las : List Addr} {ks : List Lk} {ns : List Int} {tas : List Addr} {ts : List (List Int)} (p : Hand3 H h l t u las ks ns tas ts) : Dp K H (.ref h) (dH3 ks ns ts) := .lst (sq_of p.lst) (.cons p.lk.dp (.cons (dp_ints p.tx) (.cons p.ln.dp .nil)))
theorem okd_h3 {ks : List Lk} {ns : List Int} {ts : List (List Int)} (h : LksOk ks) : Okd 4 (dH3 ks ns ts) := okd_lst (okd_cons (okd_lks h) (okd_cons ((okd_lst okd_ints).mono (n := 1) (by decide)) (okd_cons (okd_ts.mono (by decide)) okd_nil)))
theorem Hand3.diff {K : PySem.W.Frag} {H : Hp} {h l t u h' l' t' u' : Addr} {las las' : List Addr} {ks : List Lk} {ns : List Int} {tas tas' : List Addr} {ts : List (List Int)} {Q : VK} (p : Hand3 H h l t u las ks ns tas ts) (r : Hand3 H h' l' t' u' las' ks ns tas' ts) (ok : LksOk ks) (q : Q (.bl false) H) : rDiff K (.ref h) (.ref h') H Q :=
  g_diffD (b := true) p.dp r.dp (okd_h3 ok) (okd_h3 ok) (by decide) (by decide) ⟨fun _ => rfl, fun _ => rfl⟩ q
theorem ts_none {K : PySem.W.Frag} {H : Hp} {u e : Addr} {tas : List Addr} {ts : List (List Int)} {Q : VK} (p : TextsH H u tas ts) (he : H e = some (.lst [])) (q : Q (.bl (decide (ts = []))) H) : rSame K (.ref u) (.ref e) H Q :=
  g_sameD (n := 2) (m := 2) (d := dTs ts) (e := .list []) p.dp (.lst (sq_of he) .nil) okd_ts ((okd_lst okd_nil).mono (n := 1) (by decide)) (by decide) (by decide) (by
    rw [decide_eq_true_iff]
    unfold dTs
    rw [PyData.list.injEq, List.map_eq_nil_iff]) q
/-- [list(x) for x in u] -/
theorem lc_copy {K : PySem.W.Frag} {σ : St} {H : Hp} {Q : VK} {m : Nat} {l : Addr} {tas : List Addr} {ts : List (List Int)} (T : TextsH H l tas ts) (tl : ts.length ≤ 1000) (hm : m < σ.length) (q : ∀ D nas H3, H D = none → Same H H3 → TextsH H3 D nas ts → Q (.ref D) H3) :
    lcLK K (gName m) tYes (tCB (rListOf K) (tCons (tVar m) tNil)) [m] σ (.ref l) H Q := by
  have ll := T.len
  refine lc_LN (sq_of T.lst) (by rw [List.length_map]; omega) (fun D i ys H3 => H D = none ∧ ∃ nas : List Addr, ys = nas.map V.ref ∧ nas.length = i ∧ i ≤ tas.length ∧ Same H H3 ∧ H3 D = some (.lst ys) ∧ ∀ (j : Nat) a t, nas[j]? = some a → ts[j]? = some t → H3 a = some (.lst (t.map V.int)) ∧ a ≠ D)
    (fun D hD => ⟨hD, [], rfl, rfl, Nat.zero_le _, same_new (Same.refl _) hD, upd_same, fun j a t ha _ => by simp at ha⟩) ?_ ?_ ?_
  · rintro D i ys H3 ⟨hD, nas, rfl, rfl, hi, s, eD, g⟩
    exact ⟨sq_of (s _ _ T.lst), eD, by rw [List.length_map]⟩
  · rintro D i v ys H3 Q2 hv ⟨hD, nas, rfl, ni, hi, s, eD, g⟩ q2
    obtain ⟨ta, hta, rfl⟩ := map_at hv
    have hi := (List.getElem?_eq_some_iff.mp hta).1
    have ht : ts[i]? = some (ts[i]'(by omega)) := List.getElem?_eq_getElem (by omega)
    generalize ts[i]'(by omega) = t at ht
    show tCB (rListOf K) (tCons (tVar m) tNil) ((σ.set m none).set m (some (.ref ta))) H3 Q2
    refine ⟨.ref ta, ?_, ?_⟩
    · rw [List.set_set, List.getElem?_set, if_pos rfl, if_pos hm]
    · refine g_listL (sq_of (s _ _ (T.at_ i ta t hta ht))) fun a na => ?_
      have naD : a ≠ D := fun z => by rw [z, eD] at na; cases na
      have s4 := same_new (u := .lst (t.map V.int)) (Same.refl H3) na
      refine q2 _ _ (lk_new eD na) ⟨hD, nas ++ [a], by rw [List.map_append]; rfl, by rw [List.length_append, List.length_singleton, ni], by omega, same_mut (Same.trans s s4) hD, upd_same, fun j a' t' ha' ht' => ?_⟩
      by_cases z : j = i
      · subst z
        rw [ht] at ht'
        cases ht'
        have : a' = a := by
          rw [List.getElem?_append_right (by omega), ni, Nat.sub_self] at ha'
          cases ha'
          rfl
        subst this
        exact ⟨lk_mut naD upd_same, naD⟩
      · have hj : nas[j]? = some a' := by
          rw [List.getElem?_append] at ha'
          split at ha'
          · exact ha'
          · rename_i c
            have := (List.getElem?_eq_some_iff.mp ha').1
            rw [List.length_singleton] at this
            omega
        obtain ⟨g1, g2⟩ := g j a' t' hj ht'
        exact ⟨lk_mut g2 (lk_new g1 na), g2⟩
  · rintro D ys H3 ⟨hD, nas, rfl, ni, -, s, eD, g⟩
    rw [List.length_map] at ni
    exact q D nas H3 hD s ⟨eD, by rw [ni, ll], fun j a t ha ht => (g j a t ha ht).1⟩
/-! Fo, try with several clauses: 'except C', 'except (C, ..)', with 'as e' or without. -/
section
variable {M : Model} {A : Around} {E : Value → Shared → Prop} {s : Shared} {α β : Type} {f : α → β → Sem (ForInStep β)} {i x : β}
theorem wp_forIn_yield {Q : β → Shared → Prop} : ∀ {l : List α}, (∀ c ∈ l, ∀ Q' : ForInStep β → Shared → Prop, Q' (.yield i) s → wpAny M A (f c i) Q' E s) → Q i s → wpAny M A (forIn l i f) Q E s
  | [], _, q => by rw [List.forIn_nil]; exact wpAny_pure q
  | c :: l, hf, q => by
    rw [List.forIn_cons]
    exact wpAny_bind (hf c List.mem_cons_self _ (wp_forIn_yield (fun d hd => hf d (List.mem_cons_of_mem _ hd)) q))
theorem wp_forIn_find {Q : β → Shared → Prop} (hit : α → Bool) : ∀ {l : List α}, (∀ c ∈ l, ∀ Q' : ForInStep β → Shared → Prop, Q' (if hit c = true then .done x else .yield i) s → wpAny M A (f c i) Q' E s) → Q (if l.any hit = true then x else i) s → wpAny M A (forIn l i f) Q E s
  | [], _, q => by rw [List.forIn_nil]; exact wpAny_pure q
  | c :: l, hf, q => by
    rw [List.forIn_cons]
    refine wpAny_bind (hf c List.mem_cons_self _ ?_)
    cases hc : hit c with
    | true =>
      rw [List.any_cons, hc, Bool.true_or] at q
      exact wpAny_pure q
    | false =>
      rw [List.any_cons, hc, Bool.false_or] at q
      exact wp_forIn_find hit (fun d hd => hf d (List.mem_cons_of_mem _ hd)) q
end
theorem exm_hits {K : PySem.W.Frag} {cls : Value} : ∀ {cs : List Value} {b : Bool}, PySem.W.exmAny K cls cs = some b → (∀ c ∈ cs, PySem.W.exmOne K cls c = some ((PySem.W.exmOne K cls c).getD false)) ∧ (cs.any fun c => (PySem.W.exmOne K cls c).getD false) = b
  | [], b, h => ⟨fun c hc => (by cases hc), Option.some.inj h⟩
  | c :: cs, b, h => by
    obtain ⟨b1, d1, h1, h2, rfl⟩ := PySem.W.exmAny_cons h
    obtain ⟨k1, k2⟩ := exm_hits h2
    refine ⟨fun d hd => ?_, by rw [List.any_cons, k2, h1]; rfl⟩
    rcases List.mem_cons.mp hd with rfl | hd
    · rw [h1]; rfl
    · exact k1 d hd
/-- a tuple of classes: whether one of them is the exception's -/
theorem exm_tup {M : Model} {K : PySem.W.Frag} {cs : List Value} {cls : Value} {tp e : Addr} {b : Bool} {h : Heap} (X : K.In h) (ty : PySem.W.Looks M h (typeOf (.ref e)) cls) (ht : h.get? tp = some { cls := .type "tuple", data := .seq cs.toArray }) (hb : PySem.W.exmAny K cls cs = some b) :
    PySem.W.Looks M h (excMatches (.ref e) (.ref tp)) b := by
  have isT : PySem.W.Looks M h (isInstance (.ref tp) (.type "tuple")) true := ((PySem.W.Looks.ld ht).andThen .now).andThen (.of_pure isSubtype_tuple_tuple)
  obtain ⟨each, some1⟩ := exm_hits hb
  rintro A Q E ⟨g0, g1, g2, g3, g4⟩ kp q
  have kp : ∀ b o, h.get? b = some o → g0.get? b = some o := kp
  unfold excMatches
  refine wpAny_bind ((isT.keeps kp).at ?_)
  rw [if_pos rfl]
  first
    | refine wpAny_bind (wpAny_seqItems (kp _ _ ht) rfl ?_)
    | refine wpAny_bind (wpAny_bind (wpAny_seqItems (kp _ _ ht) rfl (wpAny_pure ?_)))
  refine wpAny_bind (wpAny_pure ?_)
  refine wpAny_bind (wp_forIn_yield (fun c hc Q' q' => wpAny_bind ((((PySem.W.exm_cls (M := M) X (each c hc)).1).keeps kp).at ?_)) ?_)
  · simp only [Bool.not_true, Bool.false_eq_true, if_false]
    exact wpAny_pure q'
  refine wpAny_bind ((ty.keeps kp).at ?_)
  refine wpAny_bind (wp_forIn_find (x := (some true, ())) (fun c => (PySem.W.exmOne K cls c).getD false) (fun c hc Q' q' => wpAny_bind ((((PySem.W.exm_cls (M := M) X (each c hc)).2).keeps kp).at ?_)) ?_)
  · revert q'
    cases (PySem.W.exmOne K cls c).getD false with
    | true => exact fun q' => wpAny_pure q'
    | false => exact fun q' => wpAny_pure q'
  rw [show ((some cs.toArray).getD #[]).toList = cs from rfl, some1]
  cases b with
  | true => exact wpAny_pure q
  | false => exact wpAny_pure q
/-! ### clauses -/
inductive NamesL (X : Cx) : List Expr → List Value → Prop
  | nil : NamesL X [] []
  | cons {x : Str} {c : Value} {np : Pos} {es : List Expr} {cs : List Value} (hc : Names X x c) (r : NamesL X es cs) : NamesL X (.Name x np :: es) (c :: cs)
inductive TestOk (X : Cx) : Expr → List Value → Bool → Prop
  | one {x : Str} {c : Value} {np : Pos} (hc : Names X x c) : TestOk X (.Name x np) [c] false
  | tup {es : List Expr} {cs : List Value} {kk : Nat} {pos : Pos} (h : NamesL X es cs) (l : cs.length ≤ sizeLine) : TestOk X (.Tuple es kk pos) cs true
def hitB (K : PySem.W.Frag) (cls : Value) (cs : List Value) : Bool → Option Bool
  | true => PySem.W.exmAny K cls cs
  | false => match cs with
    | [c] => PySem.W.exmOne K cls c
    | _ => none
structure Cl where
  cs : List Value
  tup : Bool
  nm : Option Nat
  ts : Addr → Value → Option Addr → TS
def clEnds (D : Ends) : Option Nat → Ends
  | none => D
  | some i => { nx := fun σ' H' => D.nx (σ'.set i none) H', rt := D.rt, bk := fun σ' H' => D.bk (σ'.set i none) H', ct := fun σ' H' => D.ct (σ'.set i none) H' }
def clSlots (σ : St) (a : Addr) : Option Nat → St
  | none => σ
  | some i => σ.set i (some (.ref a))
def wG (K : PySem.W.Frag) (Wout : WX) (D : Ends) : List Cl → WX
  | [] => Wout
  | c :: r => fun cls d σ H => ∃ b, hitB K cls c.cs c.tup = some b ∧ (b = true → ∀ a, H a = none → c.ts a cls d (clEnds D c.nm) (clSlots σ a c.nm) H) ∧ (b = false → wG K Wout D r cls d σ H)
inductive HdsG (X : Cx) : List ExceptHandler → List Cl → Prop
  | nil : HdsG X [] []
  | cons {t : Expr} {cs : List Value} {tup : Bool} {ts : Addr → Value → Option Addr → TS} {b₀ : Stmt} {suite : List Stmt} {pos' : Pos} {hds : List ExceptHandler} {l : List Cl} (ht : TestOk X t cs tup)
      (hsu : ∀ (a : Addr) (oe : Obj) (cls : Value) (d : Option Addr) (pn : List (Addr × Obj)), Zc cls d oe → (∃ vs, oe.data = .fields vs) → PSs (X.suite a ((a, oe) :: pn)) (b₀ :: suite) (ts a cls d)) (r : HdsG X hds l) :
      HdsG X (.ExceptHandler (some t) none (b₀ :: suite) pos' :: hds) (⟨cs, tup, none, ts⟩ :: l)
  | consAs {t : Expr} {n : Str} {i : Nat} {cs : List Value} {tup : Bool} {ts : Addr → Value → Option Addr → TS} {b₀ : Stmt} {suite : List Stmt} {pos' : Pos} {hds : List ExceptHandler} {l : List Cl} (hi : X.N[i]? = some n) (hln : X.env.kindOf n = some .local) (ht : TestOk X t cs tup)
      (hsu : ∀ (a : Addr) (oe : Obj) (cls : Value) (d : Option Addr) (pn : List (Addr × Obj)), Zc cls d oe → (∃ vs, oe.data = .fields vs) → PSs (X.suite a ((a, oe) :: pn)) (b₀ :: suite) (ts a cls d)) (r : HdsG X hds l) :
      HdsG X (.ExceptHandler (some t) (some n) (b₀ :: suite) pos' :: hds) (⟨cs, tup, some i, ts⟩ :: l)
/-! ### an exception that fell to the ground of a try: its clauses are asked one by one -/
structure Fell (X : Cx) (pins : List (Addr × Obj)) (σ : St) (H : Hp) (cls : Value) (d : Option Addr) (a : Addr) (s : Shared) : Prop where
  ex : ∃ (B : Heap) (sI : Shared), Inv X pins σ H sI ∧ (∀ b o, sI.heap.get? b = some o → b ∉ frs X.stack → B.get? b = some o) ∧ sI.heap.UpToSlots s.heap ∧ HandSPX.FlyingZ B (X.env :: X.outer) a (Zc cls d) s.heap ∧ s.os = sI.os
  new : H a = none
  bare : AllBare s.gens
section
variable {X : Cx} {pins : List (Addr × Obj)} {σ : St} {H : Hp} {cls : Value} {d : Option Addr} {a : Addr} {s : Shared} {h : Heap} {D : Ends} {W : WX}
theorem Fell.inv (F : Fell X pins σ H cls d a s) : Inv X pins σ H s := by
  obtain ⟨B, sI, I, low, up, fl, os⟩ := F.ex
  exact I.landed low fl.1 up os F.bare
theorem Fell.to (F : Fell X pins σ H cls d a s) (h1 : ∀ B l, HandSPX.FlyingZ B l a (Zc cls d) s.heap → HandSPX.FlyingZ B l a (Zc cls d) h) (h2 : s.heap.UpToSlots h) : Fell X pins σ H cls d a { s with heap := h } := by
  obtain ⟨B, sI, I, low, up, fl, os⟩ := F.ex
  exact ⟨⟨B, sI, I, low, up.trans h2, h1 _ _ fl, os⟩, F.new, F.bare⟩
/-- more was laid -/
theorem Fell.more (F : Fell X pins σ H cls d a s) (kp : ∀ b o, s.heap.get? b = some o → h.get? b = some o) : Fell X pins σ H cls d a { s with heap := h } :=
  F.to (fun B l ⟨f1, f2, f3, oe, vs, T, oT, ts, r1, r2, r3, r4, r5, r6, r7, r8⟩ => ⟨fun b o q => kp b o (f1 b o q), f2, f3.of_keeps fun b o q _ => ⟨o, kp b o q, rfl⟩, oe, vs, T, oT, ts, kp _ _ r1, r2, r3, r4, r5, r6, kp _ _ r7, r8⟩) (Heap.UpToSlots.of_keeps kp)
theorem Fell.obj (F : Fell X pins σ H cls d a s) : ∃ oe vs, s.heap.get? a = some oe ∧ Zc cls d oe ∧ oe.data = .fields vs := by
  obtain ⟨B, sI, I, low, up, fl, os⟩ := F.ex
  exact fl.there
theorem Fell.type (F : Fell X pins σ H cls d a s) : PySem.W.Looks (model X.prog X.w) s.heap (typeOf (.ref a)) cls := by
  obtain ⟨oe, vs, he, hz, hd⟩ := F.obj
  exact fun A Q E s' k q => wpAny_typeOf_ref (k _ _ he) (by rw [hz.1]; exact q)
/-- the suite begins -/
theorem Fell.suite (F : Fell X pins σ H cls d a s) (hf : X.env.frame = some X.env.locals) : ∃ oe, Zc cls d oe ∧ (∃ vs, oe.data = .fields vs) ∧ Inv (X.suite a ((a, oe) :: (X.pn ++ pins))) [] σ H s := by
  obtain ⟨oe, vs, he, hz, hd⟩ := F.obj
  obtain ⟨B, sI, I, low, up, fl, os⟩ := F.ex
  have far : ∀ e ∈ X.env :: X.outer, e.frame ≠ some a := fun e hm z => by
    obtain ⟨_, o', e', hnf⟩ := fl.2.2.1.mem (List.mem_filterMap.mpr ⟨e, hm, z⟩)
    rw [he] at e'
    cases e'
    exact hnf _ hd
  refine ⟨oe, hz, ⟨vs, hd⟩, F.inv.suite he hd F.new (fun z => far X.env List.mem_cons_self (by rw [hf, z])) fun hm => ?_⟩
  obtain ⟨e, hm, z⟩ := List.mem_filterMap.mp hm
  exact far e (List.mem_cons_of_mem _ hm) z
/-- no clause is left -/
theorem Fell.out (F : Fell X pins σ H cls d a s) (hs : X.stack = X.env :: X.outer) (hf : X.env.frame = some X.env.locals) (tk : Takes X W) (w : W cls d σ H) : wpAny (model X.prog X.w) X.A (handleBy (.ref a) X.env []) (SP X pins D) X.xe s := by
  obtain ⟨B, sI, I, low, up, fl, os⟩ := F.ex
  refine PX.no_clauseZ (Z := Zc cls d) (outer := X.outer) (B := B) hf fl fun h' held up' => tk _ _ ?_
  exact ⟨a, B, sI, pins, σ, H, cls, d, rfl, I, low, up.trans up', .inr (.inr (by rw [hs]; exact held)), F.new, os, F.bare, w⟩
theorem names_run {Y : Cx} {E : Value → Shared → Prop} (S : Inv Y pins σ H s) {pos : Pos} {es : List Expr} {cs : List Value} (hn : NamesL Y es cs) : ∀ {Q : List Value → Shared → Prop}, Q cs s → wpAny (model Y.prog Y.w) Y.A (spliced (backTo pos (starEach es Y.env))) Q E s := by
  induction hn with
  | nil => exact fun q => wpAny_items_nil q
  | cons hc r ih =>
    intro Q q
    refine wpAny_items_cons ?_
    obtain ⟨g, nd, m | ⟨m, v, n⟩⟩ := hc
    · exact ld_glob S g m (ih q) nd
    · exact ld_blt S g m v (ih q) n nd
/-- what a clause names, asked of what fell -/
theorem Fell.test (F : Fell X pins σ H cls d a s) (hf : X.env.frame = some X.env.locals) {E : Value → Shared → Prop} {t : Expr} {cs : List Value} {tup b : Bool} (ht : TestOk X t cs tup) (hb : hitB X.K cls cs tup = some b) {Q : Bool → Shared → Prop}
    (q : ∀ h, Fell X pins σ H cls d a { s with heap := h } → Q b { s with heap := h }) : wpAny (model X.prog X.w) (X.A.mark (some (.ref a))) (eval t X.env) (fun c s₁ => wpAny (model X.prog X.w) (X.A.mark (some (.ref a))) (excMatches (.ref a) c) Q E s₁) E s := by
  obtain ⟨oe, _, _, S⟩ := F.suite hf
  cases ht with
  | @one x c np hc =>
    have hit := (PySem.W.exm_one (M := model X.prog X.w) F.inv.kIn F.type hb).here (A := X.A.mark (some (.ref a))) (E := E) (q s.heap F)
    obtain ⟨g, nd, m | ⟨m, v, n⟩⟩ := hc
    · exact ld_glob (X := X.suite a ((a, oe) :: (X.pn ++ pins))) S g m hit nd
    · exact ld_blt (X := X.suite a ((a, oe) :: (X.pn ++ pins))) S g m v hit n nd
  | tup h l =>
    have up : ∀ {es : List Expr} {cs : List Value}, NamesL X es cs → NamesL (X.suite a ((a, oe) :: (X.pn ++ pins))) es cs := fun h => by
      induction h with
      | nil => exact .nil
      | cons hc r ih => exact .cons hc ih
    refine wpAny_Tuple (names_run (Y := X.suite a ((a, oe) :: (X.pn ++ pins))) S (up h) ⟨l, ?_⟩)
    have kp : ∀ c o, s.heap.get? c = some o → (s.heap.push { cls := .type "tuple", data := .seq cs.toArray }).get? c = some o := fun _ _ z => Heap.get?_push_of_some _ z
    exact (exm_tup (F.inv.kIn.keeps kp) (F.type.keeps kp) (Heap.get?_push_size s.heap rfl) hb).here (q _ (F.more kp))
/-- the clauses, from the first on -/
theorem Fell.clauses (hs : X.stack = X.env :: X.outer) (hf : X.env.frame = some X.env.locals) (hN : X.N.Nodup) (tk : Takes X W) {hds : List ExceptHandler} {l : List Cl} (hh : HdsG X hds l) :
    ∀ {s : Shared}, Fell X pins σ H cls d a s → wG X.K W D l cls d σ H → wpAny (model X.prog X.w) X.A (handleBy (.ref a) X.env hds) (SP X pins D) X.xe s := by
  have done : ∀ {oe : Obj} {D' : Ends} {f : Flow} {s' : Shared} (ok : X.Ok), SP (X.suite a ((a, oe) :: (X.pn ++ pins))) [] D' f s' → SP X pins D' f s' := fun {oe D' f s'} ok q => by
    cases f with
    | ret u => obtain ⟨v, σ', H', S, r, q⟩ := q; exact ⟨v, σ', H', S.unsuite ok, r, q⟩
    | _ => obtain ⟨σ', H', S, q⟩ := q; exact ⟨σ', H', S.unsuite ok, q⟩
  induction hh with
  | nil => exact fun F w => F.out hs hf tk w
  | @cons t cs tup ts b₀ suite pos' hds l ht hsu r ih =>
    rintro s F ⟨b, hb, yes, no⟩
    refine wpAny_handleBy_cons (codeAny_handlers_test (F.test hf ht hb fun h F => ?_)) (by intro q; cases q)
    cases b with
    | false => exact ih F (no rfl)
    | true =>
      obtain ⟨B, sI, I, low, up, fl, os⟩ := F.ex
      refine codeAny_handlers_suite (HandSPX.lands_againZ fl fun h4 fl4 up4 => ?_)
      have F4 : Fell X pins σ H cls d a { s with heap := h4 } := ⟨⟨B, sI, I, low, up.trans up4, fl4, os⟩, F.new, F.bare⟩
      obtain ⟨oe, hz, hd, S⟩ := F4.suite hf
      exact wpAny_mono ((hsu a oe cls d (X.pn ++ pins) hz hd).run [] _ _ H _ S (yes rfl a F.new)) (fun f s6 q => done I.ok q) fun _ _ z => z.elim
  | @consAs t n i cs tup ts b₀ suite pos' hds l hi hln ht hsu r ih =>
    rintro s F ⟨b, hb, yes, no⟩
    refine wpAny_handleBy_cons (codeAny_handlers_test (F.test hf ht hb fun h F => ?_)) (by intro q; cases q)
    cases b with
    | false => exact ih F (no rfl)
    | true =>
      obtain ⟨B, sI, I, low, up, fl, os⟩ := F.ex
      refine codeAny_handlers_suite_as (HandSPX.lands_againZ fl fun h4 fl4 up4 => ?_)
      have F4 : Fell X pins σ H cls d a { s with heap := h4 } := ⟨⟨B, sI, I, low, up.trans up4, fl4, os⟩, F.new, F.bare⟩
      obtain ⟨oe, hz, hd, S⟩ := F4.suite hf
      refine store_ok (X := X.suite a ((a, oe) :: (X.pn ++ pins))) (v := .ref a) S hN hi (.inl hln) rfl (fun s5 S5 => ?_) (.inr hln)
      refine wpAny_mono ((hsu a oe cls d (X.pn ++ pins) hz hd).run [] s5 _ H _ S5 (yes rfl a F.new)) (fun f s6 q => ?_) fun _ _ z => z.elim
      have q := done I.ok q
      cases f with
      | ret u => obtain ⟨v, σ6, H6, J, r, q⟩ := q; exact gone_ok J hN hi hln fun s7 J7 => ⟨v, _, H6, J7, r, q⟩
      | _ => obtain ⟨σ6, H6, J, q⟩ := q; exact gone_ok J hN hi hln fun s7 J7 => ⟨_, H6, J7, q⟩
end
section
variable {X : Cx} {body : List Stmt} {h₀ : ExceptHandler} {hds : List ExceptHandler} {l : List Cl} {pos : Pos} {tb : WX → TS} {Wout : WX}
theorem ps_tryG (hs : X.stack = X.env :: X.outer) (hf : X.env.frame = some X.env.locals) (hN : X.N.Nodup) (tk : Takes X Wout)
    (hb : ∀ (W : WX) (pn : List (Addr × Obj)) (xe : Value → Shared → Prop), Takes (X.tr pn xe) W → PassesOwn (model X.prog X.w) X.A X.env xe → PSs (X.tr pn xe) body (tb W))
    (hh : HdsG X (h₀ :: hds) l) : PS X (.Try body (h₀ :: hds) [] [] pos) (fun D σ H => tb (wG X.K Wout D l) D σ H) := by
  constructor
  intro pins s σ H D I h
  have hfr : X.A.frames = some (X.env :: X.outer) := by rw [I.ok.frames, hs]
  refine wpAny_Try_except (wpAny_mono ((hb (wG X.K Wout D l) (X.pn ++ pins) _ ?_ PassesOwn.looking).run [] s σ H D (I.toTry _) h) (fun f s1 q => ?_) (fun e s1 he => he))
  · rintro u s' ⟨a, B, sI, pins', σ', H', cls, d, rfl, J, low, up, sky, na, os, ag, w⟩
    have sky : Sky B (X.env :: X.outer) a (Zc cls d) X.env.locals s'.heap := by rw [← hs]; exact sky
    refine Sky.land Zc.steady hfr hf sky fun h3 fl up3 => ?_
    exact Fell.clauses hs hf hN tk hh ⟨⟨B, sI, J.ofTry I.ok, low, up.trans up3, fl, os⟩, na, ag⟩ w
  · cases f with
    | next => obtain ⟨σ', H', J, q⟩ := q; exact wpAny_execs_nil ⟨σ', H', J.ofTry I.ok, q⟩
    | ret u => obtain ⟨v, σ', H', J, r, q⟩ := q; exact ⟨v, σ', H', J.ofTry I.ok, r, q⟩
    | _ => obtain ⟨σ', H', J, q⟩ := q; exact ⟨σ', H', J.ofTry I.ok, q⟩
/-- a clause with 'as e' whose suite asks of which class e is -/
theorem hdsX {t : Expr} {n : Str} {i : Nat} {cs : List Value} {tup : Bool} {ts : Addr → Addr → TS} {b₀ : Stmt} {suite : List Stmt} {pos' : Pos} (hi : X.N[i]? = some n) (hln : X.env.kindOf n = some .local) (ht : TestOk X t cs tup)
    (hsu : ∀ (a : Addr) (oe : Obj) (D : Addr) (pn : List (Addr × Obj)), Zc (.ref D) none oe → (∃ vs, oe.data = .fields vs) → ExcC X.K D → PSs (X.suite a ((a, oe) :: pn)) (b₀ :: suite) (ts a D)) (r : HdsG X hds l) :
    HdsG X (.ExceptHandler (some t) (some n) (b₀ :: suite) pos' :: hds) (⟨cs, tup, some i, tEx X.K ts⟩ :: l) :=
  .consAs hi hln ht (fun a oe cls d pn hz hfd => ⟨fun pins s σ H Dd I h => by
    obtain ⟨D, rfl, rfl, C, h⟩ := h
    exact (hsu a oe D pn hz hfd C).run pins s σ H Dd I h⟩) r
/-- a clause without -/
theorem hdsO {t : Expr} {cs : List Value} {tup : Bool} {ts : TS} {b₀ : Stmt} {suite : List Stmt} {pos' : Pos} (ht : TestOk X t cs tup)
    (hsu : ∀ (a : Addr) (oe : Obj) (pn : List (Addr × Obj)), PSs (X.suite a ((a, oe) :: pn)) (b₀ :: suite) ts) (r : HdsG X hds l) :
    HdsG X (.ExceptHandler (some t) none (b₀ :: suite) pos' :: hds) (⟨cs, tup, none, fun _ _ _ => ts⟩ :: l) :=
  .cons ht (fun a oe _ _ pn _ _ => hsu a oe pn) r
end
def tTryG (K : PySem.W.Frag) (tb : WX → TS) (l : List Cl) (Wout : WX) : TS := fun D σ H => tb (wG K Wout D l) D σ H
theorem ps_tryM {X : Cx} {body : List Stmt} {h₀ : ExceptHandler} {hds : List ExceptHandler} {l : List Cl} {pos : Pos} {tb : WX → TS} {Wout : WX} (hs : X.stack = X.env :: X.outer) (hf : X.env.frame = some X.env.locals) (hN : X.N.Nodup) (tk : Takes X Wout)
    (hb : ∀ (W : WX) (pn : List (Addr × Obj)) (xe : Value → Shared → Prop), Takes (X.tr pn xe) W → PassesOwn (model X.prog X.w) X.A X.env xe → PSs (X.tr pn xe) body (tb W))
    (hh : HdsG X (h₀ :: hds) l) : PS X (.Try body (h₀ :: hds) [] [] pos) (tTryG X.K tb l Wout) := ps_tryG hs hf hN tk hb hh
section
variable {K : PySem.W.Frag} {σ : St} {H : Hp} {tb : WX → TS} {ts : Addr → Addr → TS} {ts' : Addr → Value → Option Addr → TS} {Wout : WX} {n : St → Hp → Prop} {rt : VK} {bk ct : St → Hp → Prop} {C D : Str} {l : List Cl} {i : Nat} {t0 : TS} {cs : List Value} {nm : Option Nat}
theorem g_tryG (q : tb (wG K Wout ⟨n, rt, bk, ct⟩ l) ⟨n, rt, bk, ct⟩ σ H) : tTryG K tb l Wout ⟨n, rt, bk, ct⟩ σ H := q
/-- caught by the first clause -/
theorem g_hitO (m : HasExm K C D true) (q : t0 ⟨n, rt, bk, ct⟩ σ H) : wG K Wout ⟨n, rt, bk, ct⟩ (⟨[.ref (He.ga K D)], false, none, fun _ _ _ => t0⟩ :: l) (.ref (He.ga K C)) none σ H :=
  ⟨true, m.h, fun _ _ _ => q, fun z => nomatch z⟩
theorem g_hitX (e : HasExc K C) (m : HasExm K C D true) (q : ∀ a, H a = none → asgn i (fun σ1 H1 => ts a (He.ga K C) ⟨unset i n, rt, unset i bk, unset i ct⟩ σ1 H1) (.ref a) σ H) :
    wG K Wout ⟨n, rt, bk, ct⟩ (⟨[.ref (He.ga K D)], false, some i, tEx K ts⟩ :: l) (.ref (He.ga K C)) none σ H :=
  ⟨true, m.h, fun _ a ha => ⟨He.ga K C, rfl, rfl, e.h, q a ha⟩, fun z => nomatch z⟩
/-- passed by the first clause -/
theorem g_miss (m : HasExm K C D false) (q : wG K Wout ⟨n, rt, bk, ct⟩ l (.ref (He.ga K C)) none σ H) : wG K Wout ⟨n, rt, bk, ct⟩ (⟨[.ref (He.ga K D)], false, nm, ts'⟩ :: l) (.ref (He.ga K C)) none σ H :=
  ⟨false, m.h, fun z => (nomatch z), fun _ => q⟩
inductive Misses (K : PySem.W.Frag) (C : Str) : List Value → Prop
  | nil : Misses K C []
  | cons {D : Str} {cs : List Value} (m : HasExm K C D false) (r : Misses K C cs) : Misses K C (.ref (He.ga K D) :: cs)
theorem Misses.any {cs : List Value} (h : Misses K C cs) : PySem.W.exmAny K (.ref (He.ga K C)) cs = some false := by
  induction h with
  | nil => rfl
  | cons m r ih =>
    unfold PySem.W.exmAny
    rw [m.h, ih]
    rfl
theorem g_missT (m : Misses K C cs) (q : wG K Wout ⟨n, rt, bk, ct⟩ l (.ref (He.ga K C)) none σ H) : wG K Wout ⟨n, rt, bk, ct⟩ (⟨cs, true, nm, ts'⟩ :: l) (.ref (He.ga K C)) none σ H :=
  ⟨false, m.any, fun z => (nomatch z), fun _ => q⟩
theorem g_out (q : Wout (.ref (He.ga K C)) none σ H) : wG K Wout ⟨n, rt, bk, ct⟩ [] (.ref (He.ga K C)) none σ H := q
end
/-! ### a locked loop that raises -/
def tLockX (t : WX → TS) (W : WX) : TS := fun D σ H => ∃ d u, H d = some u ∧ Mut (some u) ∧ ∀ od, t (fun cls dd σ' H' => H' d = some (.frz od u) ∧ W cls dd σ' (upd H' d u)) ⟨fun σ' H' => H' d = some (.frz od u) ∧ D.nx σ' (upd H' d u), fun v H' => H' d = some (.frz od u) ∧ D.rt v (upd H' d u), fun σ' H' => H' d = some (.frz od u) ∧ D.bk σ' (upd H' d u), fun σ' H' => H' d = some (.frz od u) ∧ D.ct σ' (upd H' d u)⟩ σ (upd H d (.frz od u))
theorem ps_lockX {X : Cx} {st : Stmt} {t : WX → TS} {W : WX} (tk : Takes X W) (h : ∀ W', Takes X W' → PS X st (t W')) : PS X st (tLockX t W) := by
  refine ⟨fun pins s σ H D I hw => ?_⟩
  obtain ⟨d, u, hd, mu, hw⟩ := hw
  obtain ⟨od, I1⟩ := I.lock hd mu
  have tk' : Takes X (fun cls dd σ' H' => H' d = some (.frz od u) ∧ W cls dd σ' (upd H' d u)) := fun v s' ⟨a, B, sI, pins, σ, H', cls, dd, e, I', nb, up, sky, na, os, ag, e2, w⟩ =>
    tk v s' ⟨a, B, sI, pins, σ, upd H' d u, cls, dd, e, I'.unlock e2 (I.nofrz hd mu), nb, up, sky, by rw [upd_ne (fun z => by rw [z, e2] at na; cases na)]; exact na, os, ag, w⟩
  refine thn ((h _ tk').run pins s σ _ _ I1 (hw od)) fun f s1 q => ?_
  cases f with
  | next => obtain ⟨σ', H', I2, e, q⟩ := q; exact ⟨σ', _, I2.unlock e (I.nofrz hd mu), q⟩
  | brk => obtain ⟨σ', H', I2, e, q⟩ := q; exact ⟨σ', _, I2.unlock e (I.nofrz hd mu), q⟩
  | cont => obtain ⟨σ', H', I2, e, q⟩ := q; exact ⟨σ', _, I2.unlock e (I.nofrz hd mu), q⟩
  | ret v => obtain ⟨x, σ', H', I2, r, e, q⟩ := q; exact ⟨x, σ', _, I2.unlock e (I.nofrz hd mu), r, q⟩
/-! Fo, words: dicts asked, their size -/
def rLenD : List V → Hp → VK → Prop := fun xs H Q => ∃ (a : Addr) (kvs : List (Key × V)), xs = [.ref a] ∧ H a = some (.dK kvs) ∧ Q (.int kvs.length) H
theorem c_lenD {X : Cx} : CallR X (.builtin "len") rLenD := call_lenD
theorem g_lenD {H : Hp} {Q : VK} {a : Addr} {kv : List (Key × V)} (h : H a = some (.dK kv)) (q : Q (.int kv.length) H) : rLenD [.ref a] H Q := ⟨a, kv, rfl, h, q⟩
theorem g_listD {H : Hp} {Q : VK} {a : Addr} {kv : List (Key × V)} (h : H a = some (.dK kv)) (q : ∀ l, H l = none → Q (.ref l) (upd H l (.lst (kv.map fun kv => kV kv.1)))) : L2.rListD [.ref a] H Q := ⟨a, kv, rfl, h, q⟩
section
variable {H : Hp} {Q : VK} {d : Addr} {y v : V}
theorem din_yes {T : Bool → Prop} (h : DGet H d y (some v)) (q : T true) : ∃ a o, V.ref d = .ref a ∧ DGet H a y o ∧ ∃ c, V.bl o.isSome = .bl c ∧ T c := ⟨d, some v, rfl, h, true, rfl, q⟩
theorem din_no {T : Bool → Prop} (h : DGet H d y none) (q : T false) : ∃ a o, V.ref d = .ref a ∧ DGet H a y o ∧ ∃ c, V.bl o.isSome = .bl c ∧ T c := ⟨d, none, rfl, h, false, rfl, q⟩
theorem dnin_yes {T : Bool → Prop} (h : DGet H d y (some v)) (q : T false) : ∃ a o, V.ref d = .ref a ∧ DGet H a y o ∧ ∃ c, V.bl (!o.isSome) = .bl c ∧ T c := ⟨d, some v, rfl, h, false, rfl, q⟩
theorem dnin_no {T : Bool → Prop} (h : DGet H d y none) (q : T true) : ∃ a o, V.ref d = .ref a ∧ DGet H a y o ∧ ∃ c, V.bl (!o.isSome) = .bl c ∧ T c := ⟨d, none, rfl, h, true, rfl, q⟩
theorem dget_is {T : V → Prop} (h : DGet H d y (some v)) (q : T v) : ∃ a v, V.ref d = .ref a ∧ DGet H a y (some v) ∧ T v := ⟨d, v, rfl, h, q⟩
end
/-! ### walks over dicts, locked -/
theorem DGet.f {H : Hp} {d : Addr} {o : Obj} {kv : List (Key × V)} {k : Key} (h : H d = some (.frz o (.dK kv))) : DGet H d (kV k) (valV kv k) := .inl ⟨kv, k, .inr ⟨o, h⟩, rfl, rfl⟩
theorem same_lock {H : Hp} {d : Addr} {o : Obj} {u : HO} : SameX (· = d) H (upd H d (.frz o u)) := (SameX.refl H).mut rfl
theorem same_unlock {H H' : Hp} {d : Addr} {o : Obj} {u : HO} (h : H d = some u) (s : Same (upd H d (.frz o u)) H') : Same H (upd H' d u) := fun b x hb => by
  by_cases e : b = d
  · rw [e] at hb ⊢
    rw [h] at hb
    rw [upd_same, hb]
  · rw [upd_ne e]
    exact s b x (by rw [upd_ne e]; exact hb)
theorem upd_id {H : Hp} {d : Addr} {u : HO} (h : H d = some u) : upd H d u = H := by
  funext b
  by_cases e : b = d
  · rw [e, upd_same, h]
  · rw [upd_ne e]
section
variable {K : PySem.W.Frag} {σ : St} {H : Hp} {te : TE} {g : TG} {tb : TS} {n : St → Hp → Prop} {rt : VK} {bk ct : St → Hp → Prop} {d : Addr} {o : Obj} {kv : List (Key × V)}
theorem g_lockX {t : WX → TS} {W : WX} (h : H d = some (.dK kv)) (q : ∀ od, t (fun cls dd σ' H' => H' d = some (.frz od (.dK kv)) ∧ W cls dd σ' (upd H' d (.dK kv))) ⟨fun σ' H' => H' d = some (.frz od (.dK kv)) ∧ n σ' (upd H' d (.dK kv)), fun v H' => H' d = some (.frz od (.dK kv)) ∧ rt v (upd H' d (.dK kv)), fun σ' H' => H' d = some (.frz od (.dK kv)) ∧ bk σ' (upd H' d (.dK kv)), fun σ' H' => H' d = some (.frz od (.dK kv)) ∧ ct σ' (upd H' d (.dK kv))⟩ σ (upd H d (.frz od (.dK kv)))) :
    tLockX t W ⟨n, rt, bk, ct⟩ σ H := ⟨d, _, h, trivial, q⟩
theorem g_lock {t : TS} (h : H d = some (.dK kv)) (q : ∀ od, t ⟨fun σ' H' => H' d = some (.frz od (.dK kv)) ∧ n σ' (upd H' d (.dK kv)), fun v H' => H' d = some (.frz od (.dK kv)) ∧ rt v (upd H' d (.dK kv)), fun σ' H' => H' d = some (.frz od (.dK kv)) ∧ bk σ' (upd H' d (.dK kv)), fun σ' H' => H' d = some (.frz od (.dK kv)) ∧ ct σ' (upd H' d (.dK kv))⟩ σ (upd H d (.frz od (.dK kv)))) :
    tLock t ⟨n, rt, bk, ct⟩ σ H := ⟨d, _, h, trivial, q⟩
def forVK (g : TG) (tb : TS) (n : St → Hp → Prop) (rt : VK) (σ : St) (x : V) (H : Hp) : Prop := ∃ d o kvs, x = .ref d ∧ H d = some (.frz o (.dK kvs)) ∧ forJ (Itd d o kvs) g tb n rt σ H
def forMK (g : TG) (tb : TS) (n : St → Hp → Prop) (rt : VK) (σ : St) (x : V) (H : Hp) : Prop := ∃ d o kvs, x = .ref d ∧ H d = some (.frz o (.dK kvs)) ∧ forJ (Iti d o kvs) g tb n rt σ H
theorem g_forV (q : te σ H fun x H1 => forVK g tb n rt σ x H1) : tFor (iVals te) g tb ⟨n, rt, bk, ct⟩ σ H := q
theorem g_forM (q : te σ H fun x H1 => forMK g tb n rt σ x H1) : tFor (iItems te) g tb ⟨n, rt, bk, ct⟩ σ H := q
/-- over the values of a dict -/
theorem for_V (Pv : Nat → St → Hp → Prop) (h0 : Pv 0 σ H) (hl : ∀ i σ H, Pv i σ H → H d = some (.frz o (.dK kv)))
    (ht : ∀ i k v σ H, kv[i]? = some (k, v) → Pv i σ H → g v σ H fun σ2 H2 => tb ⟨Pv (i + 1), rt, n, Pv (i + 1)⟩ σ2 H2) (hd : ∀ σ H, Pv kv.length σ H → n σ H) : forVK g tb n rt σ (.ref d) H := by
  refine ⟨d, o, kv, rfl, hl _ _ _ h0, fun i m σ H => m = kv.length - i ∧ i ≤ kv.length ∧ Pv i σ H, ⟨kv.length, rfl, Nat.zero_le _, h0⟩, ?_⟩
  rintro i m σ H ⟨rfl, hi, p⟩
  by_cases hlt : i < kv.length
  · refine .inr ⟨⟨hl _ _ _ p, hlt⟩, fun σ' H' => Pv (i + 1) σ' H', fun σ' H' q => ⟨kv.length - (i + 1), by omega, rfl, hlt, q⟩, fun v H' hy => ?_⟩
    obtain ⟨rfl, k, hk⟩ := hy
    exact ht i k v σ _ hk p
  · have e : i = kv.length := by omega
    subst e
    exact .inl ⟨⟨hl _ _ _ p, Nat.le_refl _⟩, hd σ H p⟩
/-- over the keys and values of a dict -/
theorem for_M (Pv : Nat → St → Hp → Prop) (h0 : Pv 0 σ H) (hl : ∀ i σ H, Pv i σ H → H d = some (.frz o (.dK kv)))
    (ht : ∀ i k v σ H T, kv[i]? = some (k, v) → H T = none → Pv i σ H → g (.ref T) σ (upd H T (.tup [kV k, v])) fun σ2 H2 => tb ⟨Pv (i + 1), rt, n, Pv (i + 1)⟩ σ2 H2) (hd : ∀ σ H, Pv kv.length σ H → n σ H) : forMK g tb n rt σ (.ref d) H := by
  refine ⟨d, o, kv, rfl, hl _ _ _ h0, fun i m σ H => m = kv.length - i ∧ i ≤ kv.length ∧ Pv i σ H, ⟨kv.length, rfl, Nat.zero_le _, h0⟩, ?_⟩
  rintro i m σ H ⟨rfl, hi, p⟩
  by_cases hlt : i < kv.length
  · refine .inr ⟨⟨hl _ _ _ p, hlt⟩, fun σ' H' => Pv (i + 1) σ' H', fun σ' H' q => ⟨kv.length - (i + 1), by omega, rfl, hlt, q⟩, fun v H' hy => ?_⟩
    obtain ⟨T, k, w, hk, rfl, nT, rfl⟩ := hy
    exact ht i k w σ _ T hk nT p
  · have e : i = kv.length := by omega
    subst e
    exact .inl ⟨⟨hl _ _ _ p, Nat.le_refl _⟩, hd σ H p⟩
theorem g_dpop {ta tb' : TE} {Q : VK} (q : ta σ H fun x H1 => ∃ a, x = .ref a ∧ IsD H1 a ∧ tb' σ H1 fun y H2 => ∃ kvs k v, H2 a = some (.dK kvs) ∧ y = kV k ∧ valV kvs k = some v ∧ Q v (upd H2 a (.dK (dropK kvs k)))) : tDPop1 ta tb' σ H Q := q
theorem g_sameF {x y : V} {Q : VK} (h : scal x y = true) (q : Q (.bl (decide (x = y))) H) : rSame K x y H Q := .inl ⟨h, q⟩
theorem g_diffF {x y : V} {Q : VK} (h : scal x y = true) (q : Q (.bl (!decide (x = y))) H) : rDiff K x y H Q := .inl ⟨h, q⟩
def forKK (g : TG) (tb : TS) (n : St → Hp → Prop) (rt : VK) (σ : St) (x : V) (H : Hp) : Prop := ∃ d o, x = .ref d ∧ ((∃ kvs, H d = some (.frz o (.dK kvs)) ∧ forJ (Itk d o kvs) g tb n rt σ H) ∨ ∃ kvs, H d = some (.frz o (.dT kvs)) ∧ forJ (Itkt d o kvs) g tb n rt σ H)
theorem g_forK (q : te σ H fun x H1 => forKK g tb n rt σ x H1) : tFor (iKeys te) g tb ⟨n, rt, bk, ct⟩ σ H := q
/-- over the keys of a dict -/
theorem for_K (Pv : Nat → St → Hp → Prop) (h0 : Pv 0 σ H) (hl : ∀ i σ H, Pv i σ H → H d = some (.frz o (.dK kv)))
    (ht : ∀ i k v σ H, kv[i]? = some (k, v) → Pv i σ H → g (kV k) σ H fun σ2 H2 => tb ⟨Pv (i + 1), rt, n, Pv (i + 1)⟩ σ2 H2) (hd : ∀ σ H, Pv kv.length σ H → n σ H) : forKK g tb n rt σ (.ref d) H := by
  refine ⟨d, o, rfl, .inl ⟨kv, hl _ _ _ h0, fun i m σ H => m = kv.length - i ∧ i ≤ kv.length ∧ Pv i σ H, ⟨kv.length, rfl, Nat.zero_le _, h0⟩, ?_⟩⟩
  rintro i m σ H ⟨rfl, hi, p⟩
  by_cases hlt : i < kv.length
  · refine .inr ⟨⟨hl _ _ _ p, hlt⟩, fun σ' H' => Pv (i + 1) σ' H', fun σ' H' q => ⟨kv.length - (i + 1), by omega, rfl, hlt, q⟩, fun v H' hy => ?_⟩
    obtain ⟨rfl, k, w, hk, rfl⟩ := hy
    exact ht i k w σ _ hk p
  · have e : i = kv.length := by omega
    subst e
    exact .inl ⟨⟨hl _ _ _ p, Nat.le_refl _⟩, hd σ H p⟩
end
/-! a store: its deeds -/
section
variable {K : PySem.W.Frag} {g : TG} {tb : TS} {n bk ct : St → Hp → Prop} {rt : VK} {σ : St} {H : Hp} {te : TE}
theorem g_forS (q : te σ H fun v H1 => ∃ z, v = .str z ∧ forJ (Its z) g tb n rt σ H1) : tFor (iStr te) g tb ⟨n, rt, bk, ct⟩ σ H := q
theorem for_S {z : Str} (Pv : Nat → St → Hp → Prop) (h0 : Pv 0 σ H) (ht : ∀ i c σ H, z.cps[i]? = some c → Pv i σ H → g (.str ⟨#[c]⟩) σ H fun σ2 H2 => tb ⟨Pv (i + 1), rt, n, Pv (i + 1)⟩ σ2 H2) (hd : ∀ σ H, Pv z.cps.size σ H → n σ H) : ∃ z', V.str z = .str z' ∧ forJ (Its z') g tb n rt σ H :=
  ⟨z, rfl, for_it (D := ⟨n, rt, fun _ _ => False, fun _ _ => False⟩) walk_str Pv h0 (fun _ _ _ _ _ => trivial) (fun i x σ H H' hi p y => by
    obtain ⟨rfl, c, hc, rfl⟩ := y
    exact ht i c σ _ hc p) hd⟩
end
theorem one_lt {c d : Nat} : ([c] < [d]) ↔ c < d := by
  rw [List.cons_lt_cons_iff]
  simp
theorem leA {c : Nat} {H : Hp} {Q : VK} (q : Q (.bl (decide (97 ≤ c))) H) : rLe (.str "a") (.str ⟨#[c]⟩) H Q := by
  refine g_leS ?_
  have e : (!decide ((⟨#[c]⟩ : Str).cps.toList < ("a" : Str).cps.toList)) = decide (97 ≤ c) := by
    rw [show ("a" : Str).cps.toList = [97] from by decide +kernel]
    rw [Bool.eq_iff_iff, Bool.not_eq_true', decide_eq_false_iff_not, decide_eq_true_iff]
    show ¬ ([c] < [97]) ↔ _
    rw [one_lt]
    omega
  rw [e]
  exact q
theorem leZ {c : Nat} {H : Hp} {Q : VK} (q : Q (.bl (decide (c ≤ 122))) H) : rLe (.str ⟨#[c]⟩) (.str "z") H Q := by
  refine g_leS ?_
  have e : (!decide (("z" : Str).cps.toList < (⟨#[c]⟩ : Str).cps.toList)) = decide (c ≤ 122) := by
    rw [show ("z" : Str).cps.toList = [122] from by decide +kernel]
    rw [Bool.eq_iff_iff, Bool.not_eq_true', decide_eq_false_iff_not, decide_eq_true_iff]
    show ¬ ([122] < [c]) ↔ _
    rw [one_lt]
    omega
  rw [e]
  exact q
inductive NmT (K : PySem.W.Frag) (H : Hp) : V → Bool → Prop
  | str {z : Str} (l : z.length ≤ 100000) : NmT K H (.str z) (nameOk z)
  | other {x : V} {tn : String} (t : TyX K H x (.type tn)) (k : kitB tn "str" = some false) : NmT K H x false
theorem NmT.same {K : PySem.W.Frag} {H H1 : Hp} {x : V} {b : Bool} (h : NmT K H x b) (s : Same H H1) : NmT K H1 x b := by
  cases h with
  | str l => exact .str l
  | other t k => exact .other (tyx_same s t) k
def F_checked_name (K : PySem.W.Frag) : V → Hp → VK → XK → Prop := fun x H Q E => ∃ b : Bool, NmT K H x b ∧ (b = true → Q x H) ∧ (b = false → E (.ref (He.ga K "NoName")) none H)
abbrev sp_checked_name (K : PySem.W.Frag) : Sp := on1 (F_checked_name K)
def t_checked_name (K : PySem.W.Frag) (E : XK) : TS :=
  tSeq (tIfS (tOr (tNot (tTru K (tCB (rIsi2 K) (tCons (tVar 0) (tCons (tC (.ty "str")) (tNil)))))) (tNot (tTest (tChain (rLe) (rLe) (tC (.int 1)) (tCB (rLength K) (tCons (tVar 0) (tNil))) (tC (.int 8)))))) (tRz (fun cls d _ H => E cls d H) (He.ga K "NoName")) (tNext))
  (tSeq (tFor (iStr (tVar 0)) (gName 1) (tIfS (tNot (tTest (tChain (rLe) (rLe) (tC (.str "a")) (tVar 1) (tC (.str "z"))))) (tRz (fun cls d _ H => E cls d H) (He.ga K "NoName")) (tNext)))
  (tRet (tVar 0)))
theorem pure_checked_name (K : PySem.W.Frag) {x : V} {H : Hp} {Q : VK} {E : XK} (h : F_checked_name K x H Q E) : t_checked_name K E ⟨fun _ H' => Q .non H', Q, fun _ _ => False, fun _ _ => False⟩ [some x, none] H := by
  obtain ⟨b, N, q, r⟩ := h
  unfold t_checked_name
  walk_at "gn"
  cases N with
  | @str z l =>
    refine g_isi (s := "") (tn := "str") (.base (.str z)) (b := true) (by decide +kernel) ?_
    walk_at "gn"
    refine g_lenS (Nat.le_trans l (by decide)) ?_
    walk_at "gn"
    refine dif (fun h1 => ?_) fun h1 => ?_
    · walk_at "gn"
      refine difN (fun h2 => ?_) fun h2 => ?_
      · walk_at "gn"
        exact r (by rw [nameOk, decide_eq_false (p := z.length ≤ 8) (by omega), Bool.false_and, Bool.and_false])
      · walk_at "gn"
        have nz : nameOk z = z.cps.toList.all small := by rw [nameOk, decide_eq_true (p := 1 ≤ z.length) (by omega), decide_eq_true (p := z.length ≤ 8) (by omega), Bool.true_and, Bool.true_and]
        rw [nz] at q r
        refine g_forS ?_
        walk_at "gn"
        refine for_S (fun i σ H2 => ∃ u, σ = [some (.str z), u] ∧ H2 = H ∧ (z.cps.toList.take i).all small = true) ⟨_, rfl, rfl, rfl⟩ ?_ ?_
        · rintro i c σ H2 hc ⟨u, rfl, rfl, al⟩
          have hi := (Array.getElem?_eq_some_iff.mp hc).1
          have hc' : z.cps.toList[i]? = some c := by rw [Array.getElem?_toList]; exact hc
          have bad : small c = false → z.cps.toList.all small = false := fun e => List.all_eq_false.mpr ⟨c, List.mem_of_getElem? hc', by rw [e]; decide⟩
          walk_at "gn"
          refine leA ?_
          walk_at "gn"
          refine dif (fun a1 => ?_) fun a1 => ?_
          · walk_at "gn"
            refine leZ ?_
            walk_at "gn"
            refine difN (fun a2 => ?_) fun a2 => ?_
            · walk_at "gn"
              exact r (bad (by rw [small, decide_eq_false (p := c ≤ 122) a2, Bool.and_false]))
            · walk_at "gn"
              exact ⟨_, rfl, rfl, by rw [take_snoc' hc', List.all_append, al, List.all_cons, List.all_nil, small, decide_eq_true a1, decide_eq_true a2]; rfl⟩
          · walk_at "gn"
            exact r (bad (by rw [small, decide_eq_false (p := 97 ≤ c) a1, Bool.false_and]))
        · rintro σ H2 ⟨u, rfl, rfl, al⟩
          walk_at "gn"
          exact q (by rw [← al, List.take_of_length_le (by rw [Array.length_toList]; exact Nat.le_refl _)])
    · walk_at "gn"
      exact r (by rw [nameOk, decide_eq_false (p := 1 ≤ z.length) (by omega), Bool.false_and])
  | other t k =>
    refine g_isi (s := "") t k ?_
    walk_at "gn"
    exact r rfl
section
variable (K : PySem.W.Frag) [HasCls K "Store"] [HasNo K "Store" "kinds"] [HasNo K "Store" "longest"] [HasNo K "Store" "pieces"]
def Has (rs : List Pc) (b : Option Str) : Prop := ∀ n, b = some n → ∃ p ∈ rs, p.nm = n
theorem Stk.has {m : Nat} : ∀ {rs : List Pc}, Stk m rs → ∀ p ∈ rs, Has rs p.bs := fun h => by
  induction h with
  | nil => exact fun p hp => nomatch hp
  | cons h nmok new base ok len ih =>
    intro p hp n hn
    rcases List.mem_cons.mp hp with rfl | hp
    · obtain ⟨q, hq, e⟩ := base n hn
      exact ⟨q, List.mem_cons_of_mem _ hq, e⟩
    · obtain ⟨q, hq, e⟩ := ih p hp n hn
      exact ⟨q, List.mem_cons_of_mem _ hq, e⟩
theorem dget_pc {m : Nat} {H : Hp} {d t : Addr} {rs : List Pc} {ts : List Addr} {p : Pc} {i : Nat} (ed : H d = some (.dK (kvs rs ts))) (sk : Stk m rs) (l : ts.length = rs.length) (ht : ts[i]? = some t) (hp : rs[i]? = some p) : DGet H d (.str p.nm) (some (.ref t)) := by
  have := DGet.k (k := .inr p.nm) ed
  rw [kvs_at sk l i t p ht hp] at this
  exact this
def F_Store_chain (K : PySem.W.Frag) : V → V → Hp → VK → XK → Prop := fun x y H Q _ => ∃ (a d : Addr) (ks : List Lk) (m : Nat) (rs : List Pc) (b : Option Str), x = .ref a ∧ y = bV b ∧ StoreAt K H a d ks m rs ∧ Stk m rs ∧ rs.length ≤ 60 ∧ Has rs b ∧
  ∀ l H', H l = none → Same H H' → H' l = some (.lst ((upR rs b).map fun p => V.str p.nm)) → Q (.ref l) H'
abbrev sp_Store_chain (K : PySem.W.Frag) : Sp := on2 (F_Store_chain K)
def t_Store_chain (K : PySem.W.Frag) (E : XK) : TS :=
  tSeq (tAsg (tLst (tNil)) (gName 2))
  (tSeq (tWhile (tTest (tOp (rNotNo) (tVar 1) (tC .non))) (tSeq (tDrop (tBM K "list" (rAppend) (tVar 2) (tCons (tVar 1) (tNil))))
  (tAsg (tOp (rIx K) (tDGet (tFld K (tVar 0) "pieces") (tVar 1)) (tC (.int 0))) (gName 1))))
  (tSeq (tDrop (tBM0 K "list" (rReverse) (tVar 2)))
  (tRet (tVar 2))))
theorem pure_Store_chain {x y : V} {H : Hp} {Q : VK} {E : XK} (h : F_Store_chain K x y H Q E) : t_Store_chain K E ⟨fun _ H' => Q .non H', Q, fun _ _ => False, fun _ _ => False⟩ [some x, some y, none] H := by
  obtain ⟨a, d, ks, m, rs, b, rfl, rfl, ⟨dx, kl, las, ts, ea, L, ed, P⟩, sk, hn, hb, q⟩ := h
  unfold t_Store_chain
  walk_at "gn"
  rename_i l nl
  refine g_while (fun k σ H2 => ∃ (b' : Option Str) (dn : List Pc), σ = [some (.ref a), some (bV b'), some (.ref l)] ∧ Same H H2 ∧ H2 l = some (.lst (dn.map fun p => V.str p.nm)) ∧ upR rs b = upR rs b' ++ dn.reverse ∧ Has rs b' ∧ k = (upR rs b').length) (upR rs b).length ?_ ?_
  · exact ⟨b, [], rfl, same_new (Same.refl _) nl, upd_same, by simp, hb, rfl⟩
  · rintro k σ H2 ⟨b', dn, rfl, S, el, eu, hb', rfl⟩
    have ea2 := S _ _ ea
    have ed2 := S _ _ ed
    walk_at "gn"
    rcases b' with _ | n
    · refine difNY rfl ?_
      walk_at "gn"
      rw [upR_none, List.nil_append] at eu
      exact q l _ nl (same_mut S nl) (by rw [upd_same, eu, List.map_reverse])
    · obtain ⟨p, hp, rfl⟩ := hb' n rfl
      obtain ⟨i, hi⟩ := List.getElem?_of_mem hp
      have il := (List.getElem?_eq_some_iff.mp hi).1
      have pl := P.len
      have ht : ts[i]? = some (ts[i]'(by omega)) := List.getElem?_eq_getElem (by omega)
      generalize ts[i]'(by omega) = t at ht
      obtain ⟨da, et, -⟩ := P.at_ i t p ht hi
      have et2 := S _ _ et
      have up := upR_at sk p hp
      have ul := upR_len rs (some p.nm)
      have dl : dn.length ≤ 60 := by
        have := congrArg List.length eu
        have := upR_len rs b
        simp only [List.length_append, List.length_reverse] at *
        omega
      refine difNX (by intro z; cases z) ?_
      have na : a ≠ l := fun z => by rw [z, nl] at ea; cases ea
      have nd : d ≠ l := fun z => by rw [z, nl] at ed; cases ed
      have nt : t ≠ l := fun z => by rw [z, nl] at et; cases et
      have dz : (dn.map fun p => V.str p.nm).length + 1 ≤ sizeLine := Nat.le_trans (m := 61) (by rw [List.length_map]; omega) (by decide)
      walk_at "gn"
      refine ⟨d, .ref t, rfl, dget_pc (lk_mut nd ed2) sk pl ht hi, ?_⟩
      have et3 := lk_mut (u := .lst ((dn.map fun p => V.str p.nm) ++ [bV (some p.nm)])) nt et2
      walk_at "gn"
      refine ⟨_, ?_, p.bs, dn ++ [p], rfl, same_mut S nl, by rw [upd_same, List.map_append]; rfl, by rw [eu, up, List.reverse_append, List.append_assoc]; rfl, sk.has p hp, rfl⟩
      rw [up, List.length_append, List.length_singleton]
      omega
def F_Store_init (K : PySem.W.Frag) : V → V → V → Hp → VK → XK → Prop := fun x y z H Q E => ∃ (a dx : Addr), x = .ref a ∧ H a = some (.ins (He.ga K "Store") dx []) ∧
  ((LsT K H y false ∧ ∀ H', Same H H' → E (.ref (He.ga K "NoLooks")) none H') ∨ ∃ (l : Addr) (las : List Addr) (ks : List Lk), y = .ref l ∧ LooksH H l las ks ∧ LksOk ks ∧ (∀ H', SameX (· = a) H H' → TyW K H' z) ∧
    (btw 0 1000 z = false → ∀ H', SameX (· = a) H H' → E (.ref (He.ga K "NoMost")) none H') ∧ ∀ m : Nat, z = .int m → m ≤ 1000 → ∀ d H' Fp, H d = none → SameX (· = a) H H' → (∀ x, Fp x → H x = none) → StoreFp K H' a d ks m [] Fp → Q .non H')
abbrev sp_Store_init (K : PySem.W.Frag) : Sp := on3 (F_Store_init K)
variable [HasTup K "KINDS" [.str "even", .str "quick", .str "run"]]
def t_Store_init (K : PySem.W.Frag) (E : XK) : TS :=
  tSeq (sFld K (tVar 0) (tFun (sp_checked_looks K) [] (fun _ => E) (tCons (tVar 1) (tNil))) "kinds")
  (tSeq (sFld K (tVar 0) (tFun (sp_checked_most K) [] (fun _ => E) (tCons (tVar 2) (tNil))) "longest")
  (sFld K (tVar 0) (tDNewK) "pieces"))
theorem pure_Store_init {x y z : V} {H : Hp} {Q : VK} {E : XK} (h : F_Store_init K x y z H Q E) : t_Store_init K E ⟨fun _ H' => Q .non H', Q, fun _ _ => False, fun _ _ => False⟩ [some x, some y, some z] H := by
  obtain ⟨a, dx, rfl, ea, h⟩ := h
  unfold t_Store_init
  walk_at "gn"
  rcases h with ⟨bad, r⟩ | ⟨l, las, ks, rfl, L, ok, ty, r, q⟩
  · exact ⟨false, bad, fun _ H1 s1 => r _ s1, fun z => nomatch z⟩
  refine looks_of L ok fun kl H1 nk s1 Lk => ?_
  have ea1 := s1 _ _ ea
  have ka : kl ≠ a := fun z => by rw [z, ea] at nk; cases nk
  walk_at "gn"
  have X1 : SameX (· = a) H (upd H1 a (.ins (He.ga K "Store") dx [("kinds", .ref kl)])) := (SameX.of s1).mut rfl
  have tz := ty _ X1
  refine ⟨tz, fun g => ?_, fun g => r g _ X1⟩
  obtain ⟨i, rfl⟩ : ∃ i, z = .int i := by
    rcases tz.cases with h | ⟨_, h⟩
    · exact h
    · exact absurd (h 0 1000) (by rw [g]; intro z; cases z)
  have e1 : (upd H1 a (.ins (He.ga K "Store") dx [("kinds", .ref kl)])) a = some (.ins (He.ga K "Store") dx [("kinds", .ref kl)]) := upd_same
  walk_at "gn"
  intro d nd
  have nd1 : H1 d = none := upd_none nd
  have nda : d ≠ a := fun z => by rw [z, upd_same] at nd; cases nd
  have e2 : (upd (upd H1 a (.ins (He.ga K "Store") dx [("kinds", .ref kl), ("longest", .int i)])) d (.dK [])) a = some (.ins (He.ga K "Store") dx [("kinds", .ref kl), ("longest", .int i)]) := by rw [upd_ne nda.symm, upd_same]
  walk_at "gn"
  have bi : 0 ≤ i ∧ i ≤ 1000 := by
    rw [btw, Bool.and_eq_true, decide_eq_true_iff, decide_eq_true_iff] at g
    exact g
  have lk : ∀ {b : Addr} {o : HO}, b ≠ a → H1 b = some o → (upd (upd (upd H1 a (.ins (He.ga K "Store") dx [("kinds", .ref kl), ("longest", .int i)])) d (.dK [])) a (.ins (He.ga K "Store") dx [("kinds", .ref kl), ("longest", .int i), ("pieces", .ref d)])) b = some o := fun nb hb => by
    rw [upd_ne nb, upd_ne (fun z => by rw [z, nd1] at hb; cases hb), upd_ne nb]
    exact hb
  have X3 : SameX (· = a) H (upd (upd (upd H1 a (.ins (He.ga K "Store") dx [("kinds", .ref kl), ("longest", .int i)])) d (.dK [])) a (.ins (He.ga K "Store") dx [("kinds", .ref kl), ("longest", .int i), ("pieces", .ref d)])) := (((SameX.of (M := (· = a)) s1).mut rfl).new nd).mut rfl
  refine q i.toNat (by congr 1; omega) (by omega) d _ (· = kl) (s1.free nd1) X3 (fun x e => by rw [e]; exact nk) ⟨dx, kl, las, [], ?_, ?_, ?_, ⟨rfl, fun j t p ht _ => by simp at ht⟩, rfl, fun t b da ht => nomatch ht⟩
  · rw [upd_same, show ((i.toNat : Nat) : Int) = i by omega]
  · have nt : ∀ {b : Addr} {xs : List V}, H1 b = some (.tup xs) → b ≠ a := fun h => ne_kind h ea1 (by intro z; cases z)
    refine ⟨lk ka Lk.lst, Lk.len, fun j t k ht hk => ?_⟩
    obtain ⟨c, h1, h2⟩ := Lk.at_ j t k ht hk
    exact ⟨c, lk (nt h1) h1, lk (nt h2) h2⟩
  · rw [upd_ne nda, upd_same]
    rfl
end
/-! a store: its pieces read -/
section
variable (K : PySem.W.Frag) [HasCls K "Store"] [HasNo K "Store" "kinds"] [HasNo K "Store" "longest"] [HasNo K "Store" "pieces"]
theorem lrn_take {m : Nat} {rs : List Pc} (sk : Stk m rs) {b : Option Str} {i : Nat} {p : Pc} (h : (upR rs b)[i]? = some p) : lrn rs p.bs = (lrn rs b).take i := by
  unfold lrn
  rw [← List.map_take, upR_take sk b i p h]
theorem pcB_text {m : Nat} {ks : List Lk} {rs : List Pc} {p : Pc} (ok : LksOk ks) (sk : Stk m rs) (hp : p ∈ rs) : TextOk 12000 (pcB ks rs p) := by
  have l := (sk.ok p hp).1.len
  have := pressF_len (ks := ks) (b0 := dB (lrn rs p.bs)) (ns := p.tx) ok (dB_bits _)
  exact ⟨by unfold pcB; omega, pressF_byt _ _ _⟩
theorem Stk.tsok {m : Nat} {rs : List Pc} (sk : Stk m rs) (hn : rs.length ≤ 60) (b : Option Str) : TsOk (Fo.lrn rs b) := by
  refine ⟨?_, fun t ht => ((sk.lrn b).1 t ht).1.mono (by decide)⟩
  have := upR_len rs b
  unfold Fo.lrn
  rw [List.length_map]
  omega
def F_Store_read_chain (K : PySem.W.Frag) : V → V → Hp → VK → XK → Prop := fun x y H Q _ => ∃ (a d : Addr) (ks : List Lk) (m : Nat) (rs : List Pc) (b : Option Str), x = .ref a ∧ y = bV b ∧ StoreAt K H a d ks m rs ∧ LksOk ks ∧ m ≤ 1000 ∧ Stk m rs ∧ rs.length ≤ 60 ∧ Has rs b ∧
  ∀ p h tl tas Fp H', H p = none → Same H H' → H' p = some (.tup [.ref h, .ref tl]) → ForAt K H' h Fp ks (dB (lrn rs b)) → (∀ x, Fp x → H x = none) → TextsH H' tl tas (lrn rs b) → H tl = none → (∀ t ∈ tas, H t = none ∧ t ≠ tl) → tas.Nodup → Q (.ref p) H'
abbrev sp_Store_read_chain (K : PySem.W.Frag) : Sp := on2 (F_Store_read_chain K)
def t_Store_read_chain (K : PySem.W.Frag) (E : XK) : TS :=
  tSeq (tAsg (tNew (He.ga K "Foreteller") (sp_Foreteller_init K) [] (fun _ => E) (tCons (tFld K (tVar 0) "kinds") (tNil))) (gName 2))
  (tSeq (tAsg (tLst (tNil)) (gName 3))
  (tSeq (tFor (iList K (tMth "chain" (one (He.ga K "Store") (sp_Store_chain K)) (fun _ => E) (tVar 0) (tCons (tVar 1) (tNil)))) (gName 4) (tSeq (tAsg (tFun (sp_read_by K) [] (fun _ => E) (tCons (tVar 2) (tCons (tOp (rIx K) (tDGet (tFld K (tVar 0) "pieces") (tVar 4)) (tC (.int 1))) (tCons (tFld K (tVar 0) "longest") (tNil))))) (gTup K 2 (gCons (gName 5) (gCons (gName 6) (gNil)))))
  (tDrop (tBM K "list" (rAppend) (tVar 3) (tCons (tVar 5) (tNil))))))
  (tRet (tTup (tCons (tVar 2) (tCons (tVar 3) (tNil)))))))
theorem pure_Store_read_chain {x y : V} {H : Hp} {Q : VK} {E : XK} (h : F_Store_read_chain K x y H Q E) : t_Store_read_chain K E ⟨fun _ H' => Q .non H', Q, fun _ _ => False, fun _ _ => False⟩ [some x, some y, none, none, none, none, none] H := by
  obtain ⟨a, d, ks, m, rs, b, rfl, rfl, St, ok, hm, sk, hn, hb, q⟩ := h
  obtain ⟨dx, kl, las, ts, ea, L, ed, P⟩ := id St
  unfold t_Store_read_chain
  walk_at "gn"
  intro hd hx nh nhx nhh
  walk_at "gn"
  refine fore_new K L ok nh nhx nhh fun Fp H1 S new A => ?_
  walk_at "gn"
  rename_i tl ntl
  have ntlH : H tl = none := S.free ntl
  have nFtl : ¬ Fp tl := fun z => by
    obtain ⟨o, ho, _⟩ := A.dom _ z
    rw [ntl] at ho
    cases ho
  have A := A.same (same_new (u := .lst []) (Same.refl H1) ntl)
  have S := same_new (u := .lst []) S ntl
  have etl : (upd H1 tl (.lst [])) tl = some (.lst []) := upd_same
  generalize upd H1 tl (.lst []) = H2 at S A etl ⊢
  refine ⟨a, d, ks, m, rs, b, rfl, rfl, St.same S, sk, hn, hb, fun l H3 nl s3 el => ?_⟩
  have nlH : H l = none := S.free nl
  have nFl : ¬ Fp l := fun z => by
    obtain ⟨o, ho, _⟩ := A.dom _ z
    rw [nl] at ho
    cases ho
  have nltl : l ≠ tl := fun z => by rw [z, etl] at nl; cases nl
  have A := A.same s3
  have etl := s3 _ _ etl
  have S := Same.trans S s3
  clear s3 nl ntl
  have ul := upR_len rs b
  have tsk := sk.tsok hn b
  have lenb := (sk.lrn b).2
  have lm : (lrn rs b).length = (upR rs b).length := by unfold lrn; rw [List.length_map]
  walk_at "gn"
  refine for_L (xs := (upR rs b).map fun p => V.str p.nm) (sq_of el) (fun i σ H4 => ∃ u4 u5 u6 Fp tas, σ = [some (.ref a), some (bV b), some (.ref hd), some (.ref tl), u4, u5, u6] ∧ Same H H4 ∧ (∀ x, Fp x → H x = none) ∧ ForAt K H4 hd Fp ks (dB ((lrn rs b).take i)) ∧ H4 l = some (.lst ((upR rs b).map fun p => V.str p.nm)) ∧ ¬ Fp l ∧ TextsH H4 tl tas ((lrn rs b).take i) ∧ ¬ Fp tl ∧ (∀ t ∈ tas, H t = none ∧ t ≠ tl ∧ ¬ Fp t) ∧ tas.Nodup ∧ i ≤ (upR rs b).length) ?_ ?_ ?_ ?_
  · exact ⟨_, _, _, Fp, [], rfl, S, new, by rw [List.take_zero]; exact A, el, nFl, ⟨etl, rfl, fun i t x ht _ => by simp at ht⟩, nFtl, (fun t h => nomatch h), .nil, Nat.zero_le _⟩
  · rintro i σ H4 ⟨u4, u5, u6, Fp, tas, rfl, -, -, -, e, -⟩
    exact sq_of e
  · clear A S el nFl etl nFtl new
    rintro i v σ H4 hv ⟨u4, u5, u6, Fp, tas, rfl, S, new, A, el, nFl, T, nFtl, nt, nd, -⟩
    obtain ⟨p, hp, rfl⟩ := map_at hv
    have hi := (List.getElem?_eq_some_iff.mp hp).1
    have hm' := upR_mem (List.mem_of_getElem? hp)
    obtain ⟨j, hj⟩ := List.getElem?_of_mem hm'
    have jl := (List.getElem?_eq_some_iff.mp hj).1
    have pl := P.len
    have ht : ts[j]? = some (ts[j]'(by omega)) := List.getElem?_eq_getElem (by omega)
    generalize ts[j]'(by omega) = t at ht
    obtain ⟨da, et, eda⟩ := P.at_ j t p ht hj
    have et4 := S _ _ et
    have eda4 := S _ _ eda
    have ea4 := S _ _ ea
    have ed4 := S _ _ ed
    have nFda : ¬ Fp da := fun z => by rw [new _ z] at eda; cases eda
    walk_at "gn"
    refine ⟨d, .ref t, rfl, dget_pc ed4 sk pl ht hj, ?_⟩
    walk_at "gn"
    have hxi : (lrn rs b)[i]? = some p.tx := by unfold lrn; rw [List.getElem?_map, hp]; rfl
    have e0 : pcB ks rs p = pressF ks (dB ((lrn rs b).take i)) p.tx := by unfold pcB; rw [lrn_take sk hp]
    have tk : TsOk ((lrn rs b).take i) := ⟨by rw [List.length_take]; omega, fun t ht => tsk.all t (List.mem_of_mem_take ht)⟩
    have okp := sk.ok p hm'
    have bl := dB_take (lrn rs b) i
    have en := pcB_text ok sk hm'
    have step : dB ((lrn rs b).take (i + 1)) = dB ((lrn rs b).take i) ++ decOf p.tx := dB_step hxi
    refine ⟨hd, da, Fp, ks, _, pcB ks rs p, m, rfl, rfl, rfl, A, ok, dB_bits _, by omega, go_dB tk, eda4, nFda, en, hm, fun ns ex e tx1 lx p' l1 l2 Fp' H5 s5 g A5 np n1 n2 nFp nF1 nF2 n12 ep e1 e2 => ?_, fun no => (no p.tx [] (by rw [List.append_nil]; exact e0) (okp.1.mono (by decide)) okp.2).elim⟩
    have ens : ns = p.tx := by
      rw [e0] at e
      exact (first_one ok (ts := (lrn rs b).take i) (m := m) (m' := m) (ns := ns) (ex := ex) (ns' := p.tx) (ex' := []) (d := pressF ks (dB ((lrn rs b).take i)) p.tx) (by rw [← e0]; exact en.all) ⟨e, tx1, lx⟩ ⟨by rw [List.append_nil], okp.1.mono (by decide), okp.2⟩).1
    subst ens
    have S5 : Same H H5 := s5.back S new
    have el5 := s5.kp _ _ nFl el
    have T5 : TextsH H5 tl tas ((lrn rs b).take i) := ⟨s5.kp _ _ nFtl T.lst, T.len, fun j a x ha hx => s5.kp _ _ (nt a (List.mem_of_getElem? ha)).2.2 (T.at_ j a x ha hx)⟩
    have keepN : ∀ {x : Addr} {o : HO}, H4 x = some o → ¬ Fp x → ¬ Fp' x := fun e n z => by
      rcases g _ z with y | y
      · exact n y
      · rw [e] at y; cases y
    have tl5 := T5.lst
    have tlen : tas.length = i := by rw [T.len, List.length_take, lm]; omega
    have n1tl : l1 ≠ tl := fun z => by rw [z, T.lst] at n1; cases n1
    have nltl' : l ≠ tl := nltl
    walk_at "gn"
    have dz : (tas.map V.ref).length + 1 ≤ sizeLine := Nat.le_trans (m := 61) (by rw [List.length_map]; omega) (by decide)
    walk_at "gn"
    refine ⟨_, _, _, Fp', tas ++ [l1], rfl, same_mut S5 ntlH, fun x hx => ?_, ?_, lk_mut nltl el5, keepN el nFl, ⟨by rw [upd_same, List.map_append]; rfl, by rw [List.length_append, List.length_singleton, tlen, List.length_take]; omega, fun j a x ha hx => ?_⟩, keepN T.lst nFtl, fun t ht => ?_, ?_, hi⟩
    · rcases g x hx with y | y
      · exact new x y
      · exact S.free y
    · rw [step]
      exact A5.keep (M := (· = tl)) ((SameX.refl H5).mut rfl) (fun x hx z => keepN T.lst nFtl (by rw [← z]; exact hx)) fun x xs hx => ne_kind hx tl5 (by intro z; cases z)
    · rw [List.getElem?_append] at ha
      split at ha
      · rename_i lt
        have hx' : ((lrn rs b).take i)[j]? = some x := by
          rw [List.getElem?_take, if_pos (by omega)] at hx ⊢
          exact hx
        exact lk_mut (nt a (List.mem_of_getElem? ha)).2.1 (T5.at_ j a x ha hx')
      · rename_i ge
        have h2 := (List.getElem?_eq_some_iff.mp ha).1
        rw [List.length_singleton] at h2
        have ej : j = i := by omega
        subst ej
        rw [tlen, Nat.sub_self] at ha
        cases ha
        rw [List.getElem?_take, if_pos (by omega), hxi] at hx
        cases hx
        exact lk_mut n1tl e1
    · rcases List.mem_append.mp ht with ht | ht
      · obtain ⟨z1, z2, z3⟩ := nt t ht
        obtain ⟨k, hk⟩ := List.getElem?_of_mem ht
        have kl := (List.getElem?_eq_some_iff.mp hk).1
        have hx' : ((lrn rs b).take i)[k]? = some (((lrn rs b).take i)[k]'(by rw [← T.len]; exact kl)) := List.getElem?_eq_getElem _
        exact ⟨z1, z2, keepN (T.at_ k t _ hk hx') z3⟩
      · rw [List.mem_singleton.mp ht]
        exact ⟨S.free n1, n1tl, nF1⟩
    · refine List.nodup_append.mpr ⟨nd, List.nodup_cons.mpr ⟨(fun h => nomatch h), List.nodup_nil⟩, fun t ht u hu => ?_⟩
      rw [List.mem_singleton.mp hu]
      obtain ⟨k, hk⟩ := List.getElem?_of_mem ht
      have kl := (List.getElem?_eq_some_iff.mp hk).1
      have hx' : ((lrn rs b).take i)[k]? = some (((lrn rs b).take i)[k]'(by rw [← T.len]; exact kl)) := List.getElem?_eq_getElem _
      exact fun z => by rw [← z, T.at_ k t _ hk hx'] at n1; cases n1
  · rintro σ H4 ⟨u4, u5, u6, Fp, tas, rfl, S, new, A, el, nFl, T, nFtl, nt, nd, -⟩
    rw [List.length_map, List.take_of_length_le (by omega)] at A T
    walk_at "gn"
    rename_i r nr
    exact q r hd tl tas Fp _ (S.free nr) (same_new S nr) upd_same (A.same (same_new (Same.refl _) nr)) new (T.same (same_new (Same.refl _) nr)) ntlH (fun t ht => ⟨(nt t ht).1, (nt t ht).2.1⟩) nd
end
/-! a store: asked for a piece -/
theorem NmT.of {K : PySem.W.Frag} {H : Hp} {n : Str} (h : nameOk n = true) : NmT K H (.str n) true := by
  have := NmT.str (K := K) (H := H) (z := n) (Nat.le_trans (nameOk_len h) (by decide))
  rw [h] at this
  exact this
/-- a name that is none, or of no piece -/
inductive Asked (K : PySem.W.Frag) (H : Hp) (rs : List Pc) (y : V) : Str → Prop
  | name (h : NmT K H y false) : Asked K H rs y "NoName"
  | piece {n : Str} (e : y = .str n) (ok : nameOk n = true) (no : ∀ p ∈ rs, p.nm ≠ n) : Asked K H rs y "NoPiece"
theorem Asked.same {K : PySem.W.Frag} {H H1 : Hp} {rs : List Pc} {y : V} {C : Str} (h : Asked K H rs y C) (s : Same H H1) : Asked K H1 rs y C := by
  cases h with
  | name h => exact .name (h.same s)
  | piece e ok no => exact .piece e ok no
theorem dget_no {H : Hp} {d : Addr} {rs : List Pc} {ts : List Addr} {n : Str} (ed : H d = some (.dK (kvs rs ts))) (no : ∀ p ∈ rs, p.nm ≠ n) : DGet H d (.str n) none := by
  have := DGet.k (k := .inr n) ed
  rw [kvs_no no] at this
  exact this
section
variable (K : PySem.W.Frag) [HasCls K "Store"] [HasNo K "Store" "kinds"] [HasNo K "Store" "longest"] [HasNo K "Store" "pieces"]
def F_Store_sought_piece (K : PySem.W.Frag) : V → V → Hp → VK → XK → Prop := fun x y H Q E => ∃ (a d : Addr) (ks : List Lk) (m : Nat) (rs : List Pc), x = .ref a ∧ StoreAt K H a d ks m rs ∧ Stk m rs ∧ ((∃ C, Asked K H rs y C ∧ E (.ref (He.ga K C)) none H) ∨
  ∃ p ∈ rs, y = .str p.nm ∧ ∀ t da, H t = some (.tup [bV p.bs, .ref da]) → H da = some (.lst ((pcB ks rs p).map V.int)) → Q (.ref t) H)
abbrev sp_Store_sought_piece (K : PySem.W.Frag) : Sp := on2 (F_Store_sought_piece K)
def t_Store_sought_piece (K : PySem.W.Frag) (E : XK) : TS :=
  tSeq (tIfS (tB (tDNotIn (tFun (sp_checked_name K) [] (fun _ => E) (tCons (tVar 1) (tNil))) (tFld K (tVar 0) "pieces"))) (tRz (fun cls d _ H => E cls d H) (He.ga K "NoPiece")) (tNext))
  (tRet (tDGet (tFld K (tVar 0) "pieces") (tVar 1)))
theorem pure_Store_sought_piece {x y : V} {H : Hp} {Q : VK} {E : XK} (h : F_Store_sought_piece K x y H Q E) : t_Store_sought_piece K E ⟨fun _ H' => Q .non H', Q, fun _ _ => False, fun _ _ => False⟩ [some x, some y] H := by
  obtain ⟨a, d, ks, m, rs, rfl, ⟨dx, kl, las, ts, ea, L, ed, P⟩, sk, h⟩ := h
  unfold t_Store_sought_piece
  walk_at "gn"
  rcases h with ⟨C, A, r⟩ | ⟨p, hp, rfl, q⟩
  · cases A with
    | name h => exact ⟨false, h, (fun z => nomatch z), fun _ => r⟩
    | piece e ok no =>
      subst e
      refine ⟨true, .of ok, fun _ => ?_, fun z => nomatch z⟩
      walk_at "gn"
      refine dnin_no (dget_no ed no) ?_
      walk_at "gn"
      exact r
  · refine ⟨true, .of (sk.nmok p hp), fun _ => ?_, fun z => nomatch z⟩
    obtain ⟨i, hi⟩ := List.getElem?_of_mem hp
    have il := (List.getElem?_eq_some_iff.mp hi).1
    have pl := P.len
    have ht : ts[i]? = some (ts[i]'(by omega)) := List.getElem?_eq_getElem (by omega)
    generalize ts[i]'(by omega) = t at ht
    obtain ⟨da, et, eda⟩ := P.at_ i t p ht hi
    have dg := dget_pc ed sk pl ht hi
    walk_at "gn"
    refine dnin_yes dg ?_
    walk_at "gn"
    exact ⟨d, .ref t, rfl, dg, q t da et eda⟩
def F_Store_fitting (K : PySem.W.Frag) : V → V → Hp → VK → XK → Prop := fun x y H Q E => ∃ (a d : Addr) (ks : List Lk) (m : Nat) (rs : List Pc), x = .ref a ∧ StoreAt K H a d ks m rs ∧ ((SgT K H 1000 y false ∧ ∀ H', Same H H' → E (.ref (He.ga K "NoText")) none H') ∨
  ∃ ta ns, y = .ref ta ∧ H ta = some (.lst (ns.map V.int)) ∧ TextOk 1000 ns ∧ (m < ns.length → ∀ H', Same H H' → E (.ref (He.ga K "TooLong")) none H') ∧ (ns.length ≤ m → ∀ l H', H l = none → Same H H' → H' l = some (.lst (ns.map V.int)) → Q (.ref l) H'))
abbrev sp_Store_fitting (K : PySem.W.Frag) : Sp := on2 (F_Store_fitting K)
def t_Store_fitting (K : PySem.W.Frag) (E : XK) : TS :=
  tSeq (tAsg (tFun (sp_checked_text K) [] (fun _ => E) (tCons (tVar 1) (tNil))) (gName 2))
  (tSeq (tIfS (tTest (tOp (iGt) (tCB (rLength K) (tCons (tVar 2) (tNil))) (tFld K (tVar 0) "longest"))) (tRz (fun cls d _ H => E cls d H) (He.ga K "TooLong")) (tNext))
  (tRet (tVar 2)))
theorem pure_Store_fitting {x y : V} {H : Hp} {Q : VK} {E : XK} (h : F_Store_fitting K x y H Q E) : t_Store_fitting K E ⟨fun _ H' => Q .non H', Q, fun _ _ => False, fun _ _ => False⟩ [some x, some y, none] H := by
  obtain ⟨a, d, ks, m, rs, rfl, ⟨dx, kl, las, ts, ea, L, ed, P⟩, h⟩ := h
  unfold t_Store_fitting
  walk_at "gn"
  rcases h with ⟨h, r⟩ | ⟨ta, ns, rfl, hta, tok, r, q⟩
  · exact ⟨false, h, fun _ => r, fun z => nomatch z⟩
  · refine signs_of' hta tok (by decide) fun c H2 nc s2 ec => ?_
    have ea2 := s2 _ _ ea
    walk_at "gn"
    rw [List.length_map]
    refine dif (fun h => ?_) fun h => ?_
    · walk_at "gn"
      exact r (by omega) _ s2
    · walk_at "gn"
      exact q (by omega) c H2 nc s2 ec
/-- which refusal of a put is due, if one is -/
inductive PutBad (K : PySem.W.Frag) (H : Hp) (m : Nat) (rs : List Pc) (y z w : V) : Str → Prop
  | name (h : NmT K H y false) : PutBad K H m rs y z w "NoName"
  | text {n : Str} (e : y = .str n) (hn : nameOk n = true) (h : SgT K H 1000 z false) : PutBad K H m rs y z w "NoText"
  | base {n : Str} {ta : Addr} {ns : List Int} (e : y = .str n) (hn : nameOk n = true) (e2 : z = .ref ta) (ht : H ta = some (.lst (ns.map V.int))) (t : TextOk 1000 ns) (nw : w ≠ .non) (h : NmT K H w false) : PutBad K H m rs y z w "NoName"
  | long {n : Str} {ta : Addr} {ns : List Int} {b : Option Str} (e : y = .str n) (hn : nameOk n = true) (e2 : z = .ref ta) (ht : H ta = some (.lst (ns.map V.int))) (t : TextOk 1000 ns) (e3 : w = bV b) (hb : ∀ c, b = some c → nameOk c = true) (h : m < ns.length) : PutBad K H m rs y z w "TooLong"
  | taken {n : Str} {ta : Addr} {ns : List Int} {b : Option Str} (e : y = .str n) (hn : nameOk n = true) (e2 : z = .ref ta) (ht : H ta = some (.lst (ns.map V.int))) (t : TextOk 1000 ns) (e3 : w = bV b) (hb : ∀ c, b = some c → nameOk c = true) (l : ns.length ≤ m) {p : Pc} (hp : p ∈ rs) (h : p.nm = n) : PutBad K H m rs y z w "Taken"
  | piece {n : Str} {ta : Addr} {ns : List Int} {c : Str} (e : y = .str n) (hn : nameOk n = true) (e2 : z = .ref ta) (ht : H ta = some (.lst (ns.map V.int))) (t : TextOk 1000 ns) (e3 : w = .str c) (hc : nameOk c = true) (l : ns.length ≤ m) (h1 : ∀ p ∈ rs, p.nm ≠ n) (h : ∀ p ∈ rs, p.nm ≠ c) : PutBad K H m rs y z w "NoPiece"
  | full {n : Str} {ta : Addr} {ns : List Int} {b : Option Str} (e : y = .str n) (hn : nameOk n = true) (e2 : z = .ref ta) (ht : H ta = some (.lst (ns.map V.int))) (t : TextOk 1000 ns) (e3 : w = bV b) (hb : Has rs b) (l : ns.length ≤ m) (h1 : ∀ p ∈ rs, p.nm ≠ n) (h : rs.length = 60) : PutBad K H m rs y z w "Full"
def F_Store_put (K : PySem.W.Frag) : V → V → V → V → Hp → VK → XK → Prop := fun x y z w H Q E => ∃ (a d : Addr) (ks : List Lk) (m : Nat) (rs : List Pc) (Fp : Addr → Prop), x = .ref a ∧ StoreFp K H a d ks m rs Fp ∧ LksOk ks ∧ m ≤ 1000 ∧ Stk m rs ∧ rs.length ≤ 60 ∧ ((∃ C, PutBad K H m rs y z w C ∧ ∀ H', Same H H' → E (.ref (He.ga K C)) none H') ∨
  ∃ n ta ns b, y = .str n ∧ z = .ref ta ∧ w = bV b ∧ H ta = some (.lst (ns.map V.int)) ∧ Stk m (⟨n, b, ns⟩ :: rs) ∧ rs.length < 60 ∧ ∀ H' Fp', SameX (· = d) H H' → (∀ x, Fp' x → Fp x ∨ H x = none) → StoreFp K H' a d ks m (⟨n, b, ns⟩ :: rs) Fp' → Q .non H')
abbrev sp_Store_put (K : PySem.W.Frag) : Sp := on4 (F_Store_put K)
theorem kvs_has {m : Nat} {rs : List Pc} {ts : List Addr} {H : Hp} {d : Addr} (sk : Stk m rs) (l : ts.length = rs.length) (ed : H d = some (.dK (kvs rs ts))) {p : Pc} (hp : p ∈ rs) : ∃ t, DGet H d (.str p.nm) (some (.ref t)) := by
  obtain ⟨i, hi⟩ := List.getElem?_of_mem hp
  have il := (List.getElem?_eq_some_iff.mp hi).1
  have ht : ts[i]? = some (ts[i]'(by omega)) := List.getElem?_eq_getElem (by omega)
  exact ⟨_, dget_pc ed sk l ht hi⟩
theorem Stk.top {m : Nat} {p : Pc} {rs : List Pc} (h : Stk m (p :: rs)) : nameOk p.nm = true ∧ TextOk 200 p.tx ∧ p.tx.length ≤ m ∧ Has rs p.bs := by
  cases h with
  | cons h nmok new base ok len => exact ⟨nmok, ok, len, fun n e => base n e⟩
def t_Store_put (K : PySem.W.Frag) (E : XK) : TS :=
  tSeq (tDrop (tFun (sp_checked_name K) [] (fun _ => E) (tCons (tVar 1) (tNil))))
  (tSeq (tDrop (tFun (sp_checked_text K) [] (fun _ => E) (tCons (tVar 2) (tNil))))
  (tSeq (tIfS (tTest (tOp (rNotNo) (tVar 3) (tC .non))) (tDrop (tFun (sp_checked_name K) [] (fun _ => E) (tCons (tVar 3) (tNil)))) (tNext))
  (tSeq (tAsg (tMth "fitting" (one (He.ga K "Store") (sp_Store_fitting K)) (fun _ => E) (tVar 0) (tCons (tVar 2) (tNil))) (gName 4))
  (tSeq (tIfS (tB (tDIn (tVar 1) (tFld K (tVar 0) "pieces"))) (tRz (fun cls d _ H => E cls d H) (He.ga K "Taken")) (tNext))
  (tSeq (tIfS (tAnd (tTest (tOp (rNotNo) (tVar 3) (tC .non))) (tB (tDNotIn (tVar 3) (tFld K (tVar 0) "pieces")))) (tRz (fun cls d _ H => E cls d H) (He.ga K "NoPiece")) (tNext))
  (tSeq (tIfS (tTest (tOp (rSame K) (tCB (rLenD) (tCons (tFld K (tVar 0) "pieces") (tNil))) (tC (.int 60)))) (tRz (fun cls d _ H => E cls d H) (He.ga K "Full")) (tNext))
  (sDPut (tFld K (tVar 0) "pieces") (tVar 1) (tTup (tCons (tVar 3) (tCons (tFun (sp_press_by K) [] (fun _ => E) (tCons (tOp (rIx K) (tMth "read_chain" (one (He.ga K "Store") (sp_Store_read_chain K)) (fun _ => E) (tVar 0) (tCons (tVar 3) (tNil))) (tC (.int 0))) (tCons (tVar 4) (tNil)))) (tNil)))))))))))
theorem pure_Store_put {x y z w : V} {H : Hp} {Q : VK} {E : XK} (h : F_Store_put K x y z w H Q E) : t_Store_put K E ⟨fun _ H' => Q .non H', Q, fun _ _ => False, fun _ _ => False⟩ [some x, some y, some z, some w, none] H := by
  obtain ⟨a, d, ks, m, rs, Fp0, rfl, StF, ok, hm, sk, h60, h⟩ := h
  have St := StF.at_
  obtain ⟨dx, kl, las, ts, ea, L, ed, P, fk, fd⟩ := StF
  have kl' := kvs_len P.len
  unfold t_Store_put
  walk_at "gn"
  have head : ∀ {n : Str} {ta : Addr} {ns : List Int} {b : Option Str}, y = .str n → z = .ref ta → w = bV b → nameOk n = true → H ta = some (.lst (ns.map V.int)) → TextOk 1000 ns → (∀ c, b = some c → nameOk c = true) →
      (∀ H1 Q1, Same H H1 → (∀ l H2, H l = none → Same H H2 → H2 l = some (.lst (ns.map V.int)) → tSeq (tIfS (tB (tDIn (tVar 1) (tFld K (tVar 0) "pieces"))) (tRz (fun cls d _ H => E cls d H) (He.ga K "Taken")) (tNext)) (tSeq (tIfS (tAnd (tTest (tOp (rNotNo) (tVar 3) (tC .non))) (tB (tDNotIn (tVar 3) (tFld K (tVar 0) "pieces")))) (tRz (fun cls d _ H => E cls d H) (He.ga K "NoPiece")) (tNext)) (tSeq (tIfS (tTest (tOp (rSame K) (tCB (rLenD) (tCons (tFld K (tVar 0) "pieces") (tNil))) (tC (.int 60)))) (tRz (fun cls d _ H => E cls d H) (He.ga K "Full")) (tNext)) (sDPut (tFld K (tVar 0) "pieces") (tVar 1) (tTup (tCons (tVar 3) (tCons (tFun (sp_press_by K) [] (fun _ => E) (tCons (tOp (rIx K) (tMth "read_chain" (one (He.ga K "Store") (sp_Store_read_chain K)) (fun _ => E) (tVar 0) (tCons (tVar 3) (tNil))) (tC (.int 0))) (tCons (tVar 4) (tNil)))) (tNil))))))) ⟨fun _ H' => Q .non H', Q, fun _ _ => False, fun _ _ => False⟩ [some (.ref a), some (.str n), some (.ref ta), some (bV b), some (.ref l)] H2 → Q1 (.ref l) H2) → F_Store_fitting K (.ref a) (.ref ta) H1 Q1 E) →
      F_checked_name K y H (fun v H1 => tSeq (tDrop (tFun (sp_checked_text K) [] (fun _ => E) (tCons (tVar 2) (tNil)))) (tSeq (tIfS (tTest (tOp (rNotNo) (tVar 3) (tC .non))) (tDrop (tFun (sp_checked_name K) [] (fun _ => E) (tCons (tVar 3) (tNil)))) (tNext)) (tSeq (tAsg (tMth "fitting" (one (He.ga K "Store") (sp_Store_fitting K)) (fun _ => E) (tVar 0) (tCons (tVar 2) (tNil))) (gName 4)) (tSeq (tIfS (tB (tDIn (tVar 1) (tFld K (tVar 0) "pieces"))) (tRz (fun cls d _ H => E cls d H) (He.ga K "Taken")) (tNext)) (tSeq (tIfS (tAnd (tTest (tOp (rNotNo) (tVar 3) (tC .non))) (tB (tDNotIn (tVar 3) (tFld K (tVar 0) "pieces")))) (tRz (fun cls d _ H => E cls d H) (He.ga K "NoPiece")) (tNext)) (tSeq (tIfS (tTest (tOp (rSame K) (tCB (rLenD) (tCons (tFld K (tVar 0) "pieces") (tNil))) (tC (.int 60)))) (tRz (fun cls d _ H => E cls d H) (He.ga K "Full")) (tNext)) (sDPut (tFld K (tVar 0) "pieces") (tVar 1) (tTup (tCons (tVar 3) (tCons (tFun (sp_press_by K) [] (fun _ => E) (tCons (tOp (rIx K) (tMth "read_chain" (one (He.ga K "Store") (sp_Store_read_chain K)) (fun _ => E) (tVar 0) (tCons (tVar 3) (tNil))) (tC (.int 0))) (tCons (tVar 4) (tNil)))) (tNil)))))))))) ⟨fun _ H' => Q .non H', Q, fun _ _ => False, fun _ _ => False⟩ [some (.ref a), some y, some z, some w, none] H1) E := by
    rintro n ta ns b rfl rfl rfl nok hta tok hb fit
    generalize hR : (tSeq (tIfS (tB (tDIn (tVar 1) (tFld K (tVar 0) "pieces"))) (tRz (fun cls d _ H => E cls d H) (He.ga K "Taken")) (tNext)) (tSeq (tIfS (tAnd (tTest (tOp (rNotNo) (tVar 3) (tC .non))) (tB (tDNotIn (tVar 3) (tFld K (tVar 0) "pieces")))) (tRz (fun cls d _ H => E cls d H) (He.ga K "NoPiece")) (tNext)) (tSeq (tIfS (tTest (tOp (rSame K) (tCB (rLenD) (tCons (tFld K (tVar 0) "pieces") (tNil))) (tC (.int 60)))) (tRz (fun cls d _ H => E cls d H) (He.ga K "Full")) (tNext)) (sDPut (tFld K (tVar 0) "pieces") (tVar 1) (tTup (tCons (tVar 3) (tCons (tFun (sp_press_by K) [] (fun _ => E) (tCons (tOp (rIx K) (tMth "read_chain" (one (He.ga K "Store") (sp_Store_read_chain K)) (fun _ => E) (tVar 0) (tCons (tVar 3) (tNil))) (tC (.int 0))) (tCons (tVar 4) (tNil)))) (tNil)))))))) = R at fit ⊢
    refine ⟨true, .of nok, fun _ => ?_, fun z => nomatch z⟩
    walk_at "gn"
    refine signs_of' hta tok (by decide) fun c1 H1 nc1 s1 ec1 => ?_
    walk_at "gn"
    rcases b with _ | c
    · refine difNY rfl ?_
      walk_at "gn"
      exact fit H1 _ s1 fun l H2 nl s2 el h => h
    · refine difNX (by intro z; cases z) ?_
      walk_at "gn"
      refine ⟨true, .of (hb c rfl), fun _ => ?_, fun z => nomatch z⟩
      walk_at "gn"
      exact fit H1 _ s1 fun l H2 nl s2 el h => h
  have fits : ∀ {ta : Addr} {ns : List Int}, H ta = some (.lst (ns.map V.int)) → TextOk 1000 ns → ns.length ≤ m → ∀ H1 Q1, Same H H1 → (∀ l H2, H l = none → Same H H2 → H2 l = some (.lst (ns.map V.int)) → Q1 (.ref l) H2) → F_Store_fitting K (.ref a) (.ref ta) H1 Q1 E := fun {ta ns} hta tok len H1 Q1 s1 q1 =>
    ⟨a, d, ks, m, rs, rfl, St.same s1, .inr ⟨ta, ns, rfl, s1 _ _ hta, tok, fun z => by omega, fun _ l H2 nl s2 el => q1 l H2 (s1.free nl) (Same.trans s1 s2) el⟩⟩
  rcases h with ⟨C, B, r⟩ | ⟨n, ta, ns, b, rfl, rfl, rfl, hta, sk2, h59, q⟩
  · cases B with
    | name h => exact ⟨false, h, (fun z => nomatch z), fun _ => r _ (Same.refl _)⟩
    | text e hn h =>
      subst e
      refine ⟨true, .of hn, fun _ => ?_, fun z => nomatch z⟩
      walk_at "gn"
      exact ⟨false, h, fun _ => r, fun z => nomatch z⟩
    | base e hn e2 ht t nw h =>
      subst e e2
      refine ⟨true, .of hn, fun _ => ?_, fun z => nomatch z⟩
      walk_at "gn"
      refine signs_of' ht t (by decide) fun c1 H1 nc1 s1 ec1 => ?_
      walk_at "gn"
      exact ⟨false, h.same s1, (fun z => nomatch z), fun _ => r _ s1⟩
    | long e hn e2 ht t e3 hb h =>
      exact head e e2 e3 hn ht t hb fun H1 Q1 s1 _ => ⟨a, d, ks, m, rs, rfl, St.same s1, .inr ⟨_, _, rfl, s1 _ _ ht, t, fun _ H2 s2 => r _ (Same.trans s1 s2), fun z => by omega⟩⟩
    | taken e hn e2 ht t e3 hb l hp h =>
      refine head e e2 e3 hn ht t hb fun H1 Q1 s1 q1 => fits ht t l H1 Q1 s1 fun l H2 nl s2 el => q1 l H2 nl s2 el ?_
      have ea2 := s2 _ _ ea
      have ed2 := s2 _ _ ed
      obtain ⟨t, dg⟩ := kvs_has sk P.len ed2 hp
      rw [h] at dg
      walk_at "gn"
      refine din_yes dg ?_
      walk_at "gn"
      exact r _ s2
    | piece e hn e2 ht t e3 hc l h1 h =>
      refine head (b := some _) e e2 e3 hn ht t (fun c z => by cases z; exact hc) fun H1 Q1 s1 q1 => fits ht t l H1 Q1 s1 fun l H2 nl s2 el => q1 l H2 nl s2 el ?_
      have ea2 := s2 _ _ ea
      have ed2 := s2 _ _ ed
      walk_at "gn"
      refine din_no (dget_no ed2 h1) ?_
      walk_at "gn"
      refine difNX (by intro z; cases z) ?_
      walk_at "gn"
      refine dnin_no (dget_no ed2 h) ?_
      walk_at "gn"
      exact r _ s2
    | @full n ta ns b e hn e2 ht t e3 hb l h1 h =>
      refine head e e2 e3 hn ht t (fun c z => by obtain ⟨p, hp, e⟩ := hb c z; rw [← e]; exact sk.nmok p hp) fun H1 Q1 s1 q1 => fits ht t l H1 Q1 s1 fun l H2 nl s2 el => q1 l H2 nl s2 el ?_
      have ea2 := s2 _ _ ea
      have ed2 := s2 _ _ ed
      walk_at "gn"
      refine din_no (dget_no ed2 h1) ?_
      walk_at "gn"
      have rest2 : ∀ H3, H3 = H2 → tSeq (tIfS (tTest (tOp (rSame K) (tCB (rLenD) (tCons (tFld K (tVar 0) "pieces") (tNil))) (tC (.int 60)))) (tRz (fun cls d _ H => E cls d H) (He.ga K "Full")) (tNext)) (sDPut (tFld K (tVar 0) "pieces") (tVar 1) (tTup (tCons (tVar 3) (tCons (tFun (sp_press_by K) [] (fun _ => E) (tCons (tOp (rIx K) (tMth "read_chain" (one (He.ga K "Store") (sp_Store_read_chain K)) (fun _ => E) (tVar 0) (tCons (tVar 3) (tNil))) (tC (.int 0))) (tCons (tVar 4) (tNil)))) (tNil))))) ⟨fun _ H' => Q .non H', Q, fun _ _ => False, fun _ _ => False⟩ [some (.ref a), some (.str n), some (.ref ta), some (bV b), some (.ref l)] H3 := by
        rintro H3 rfl
        walk_at "gn"
        refine g_lenD ed2 ?_
        rw [kl']
        walk_at "gn"
        exact r _ s2
      generalize (tSeq (tIfS (tTest (tOp (rSame K) (tCB (rLenD) (tCons (tFld K (tVar 0) "pieces") (tNil))) (tC (.int 60)))) (tRz (fun cls d _ H => E cls d H) (He.ga K "Full")) (tNext)) (sDPut (tFld K (tVar 0) "pieces") (tVar 1) (tTup (tCons (tVar 3) (tCons (tFun (sp_press_by K) [] (fun _ => E) (tCons (tOp (rIx K) (tMth "read_chain" (one (He.ga K "Store") (sp_Store_read_chain K)) (fun _ => E) (tVar 0) (tCons (tVar 3) (tNil))) (tC (.int 0))) (tCons (tVar 4) (tNil)))) (tNil)))))) = R at rest2 ⊢
      rcases b with _ | c
      · refine difNY rfl ?_
        walk_at "gn"
        exact rest2 _ rfl
      · refine difNX (by intro z; cases z) ?_
        walk_at "gn"
        obtain ⟨p, hp, e⟩ := hb c rfl
        obtain ⟨t, dg⟩ := kvs_has sk P.len ed2 hp
        rw [e] at dg
        refine dnin_yes dg ?_
        walk_at "gn"
        exact rest2 _ rfl
  · obtain ⟨nok, tok, len, hb⟩ := sk2.top
    have nok : nameOk n = true := nok
    have tok : TextOk 200 ns := tok
    have len : ns.length ≤ m := len
    have hb : Has rs b := hb
    have rest : ∀ l H2, H l = none → Same H H2 → H2 l = some (.lst (ns.map V.int)) → tSeq (tIfS (tB (tDIn (tVar 1) (tFld K (tVar 0) "pieces"))) (tRz (fun cls d _ H => E cls d H) (He.ga K "Taken")) (tNext)) (tSeq (tIfS (tAnd (tTest (tOp (rNotNo) (tVar 3) (tC .non))) (tB (tDNotIn (tVar 3) (tFld K (tVar 0) "pieces")))) (tRz (fun cls d _ H => E cls d H) (He.ga K "NoPiece")) (tNext)) (tSeq (tIfS (tTest (tOp (rSame K) (tCB (rLenD) (tCons (tFld K (tVar 0) "pieces") (tNil))) (tC (.int 60)))) (tRz (fun cls d _ H => E cls d H) (He.ga K "Full")) (tNext)) (sDPut (tFld K (tVar 0) "pieces") (tVar 1) (tTup (tCons (tVar 3) (tCons (tFun (sp_press_by K) [] (fun _ => E) (tCons (tOp (rIx K) (tMth "read_chain" (one (He.ga K "Store") (sp_Store_read_chain K)) (fun _ => E) (tVar 0) (tCons (tVar 3) (tNil))) (tC (.int 0))) (tCons (tVar 4) (tNil)))) (tNil))))))) ⟨fun _ H' => Q .non H', Q, fun _ _ => False, fun _ _ => False⟩ [some (.ref a), some (.str n), some (.ref ta), some (bV b), some (.ref l)] H2 := by
      intro l H2 nl s2 el
      have ea2 := s2 _ _ ea
      have ed2 := s2 _ _ ed
      walk_at "gn"
      refine din_no (dget_no ed2 sk2.new) ?_
      walk_at "gn"
      have rest2 : ∀ H3, H3 = H2 → tSeq (tIfS (tTest (tOp (rSame K) (tCB (rLenD) (tCons (tFld K (tVar 0) "pieces") (tNil))) (tC (.int 60)))) (tRz (fun cls d _ H => E cls d H) (He.ga K "Full")) (tNext)) (sDPut (tFld K (tVar 0) "pieces") (tVar 1) (tTup (tCons (tVar 3) (tCons (tFun (sp_press_by K) [] (fun _ => E) (tCons (tOp (rIx K) (tMth "read_chain" (one (He.ga K "Store") (sp_Store_read_chain K)) (fun _ => E) (tVar 0) (tCons (tVar 3) (tNil))) (tC (.int 0))) (tCons (tVar 4) (tNil)))) (tNil))))) ⟨fun _ H' => Q .non H', Q, fun _ _ => False, fun _ _ => False⟩ [some (.ref a), some (.str n), some (.ref ta), some (bV b), some (.ref l)] H3 := by
        rintro H3 rfl
        walk_at "gn"
        refine g_lenD ed2 ?_
        rw [kl']
        walk_at "gn"
        refine g_dput ?_
        walk_at "gn"
        refine ⟨a, d, ks, m, rs, b, rfl, rfl, St.same s2, ok, hm, sk, h60, hb, fun p h tl tas Fp H4 np s4 ep A new T ntl nt nd => ?_⟩
        walk_at "gn"
        have lb := (sk.lrn b).2
        refine ⟨h, l, Fp, ks, _, ns, rfl, rfl, A, ok, dB_bits _, by omega, s4 _ _ el, tok.mono (by decide), fun r Fp' H5 nr s5 g A5 er nFr => ?_⟩
        have S5 : Same H3 H5 := s5.back s4 new
        have S5 : Same H H5 := Same.trans s2 S5
        clear A5 g s5 A
        have ea5 := S5 _ _ ea
        walk_at "gn"
        rename_i t nt5
        have S6 : Same H (upd H5 t (.tup [bV b, .ref r])) := same_new S5 nt5
        have et6 : (upd H5 t (.tup [bV b, .ref r])) t = some (.tup [bV b, .ref r]) := upd_same
        have er6 := lk_new (u := .tup [bV b, .ref r]) er nt5
        have ea6 := S6 _ _ ea
        have ed6 := S6 _ _ ed
        generalize upd H5 t (.tup [bV b, .ref r]) = H6 at S6 et6 er6 ea6 ed6 ⊢
        clear S5 nt5 er ea5
        walk_at "gn"
        refine ⟨d, _, rfl, DPut.k (k := .inr n) ed6 (Nat.lt_of_le_of_lt (m := 60) (by omega) (by decide)), ?_⟩
        have X6 : SameX (· = d) H (upd H6 d (.dK (L2.putK (kvs rs ts) (.inr n) (.ref t)))) := (SameX.of S6).mut rfl
        have kp : ∀ b o, H b = some o → (∀ kv, o ≠ .dK kv) → (upd H6 d (.dK (L2.putK (kvs rs ts) (.inr n) (.ref t)))) b = some o := fun b o hb no => X6.kp b o (fun z => by rw [z, ed] at hb; cases hb; exact no _ rfl) hb
        have kq : ∀ {b : Addr} {o : HO}, H6 b = some o → (∀ kv, o ≠ .dK kv) → (upd H6 d (.dK (L2.putK (kvs rs ts) (.inr n) (.ref t)))) b = some o := fun {b o} hb no => lk_mut (fun z => by rw [z, ed6] at hb; cases hb; exact no _ rfl) hb
        have eb : pressF ks (dB (lrn rs b)) ns = pcB ks (⟨n, b, ns⟩ :: rs) ⟨n, b, ns⟩ := by
          unfold pcB lrn
          rw [upR_miss (sk2.base_old List.mem_cons_self)]
        refine q _ (fun x => Fp0 x ∨ x = r) X6 (fun x hx => ?_) ⟨dx, kl, las, t :: ts, kp _ _ ea (fun kv z => nomatch z), ⟨kp _ _ L.lst (fun kv z => nomatch z), L.len, fun i x k hx hk => ?_⟩, by rw [upd_same]; exact congrArg (fun z => some (HO.dK z)) (kvs_put sk2), P.put sk2 kp (kq et6 fun kv z => nomatch z) (by rw [← eb]; exact kq er6 fun kv z => nomatch z), .inl fk, fun t1 b1 da1 ht1 et1 => ?_⟩
        · rcases hx with z | z
          · exact .inl z
          · rw [z]; exact .inr (s2.free (s4.free nr))
        · obtain ⟨c, h1, h2⟩ := L.at_ i x k hx hk
          exact ⟨c, kp _ _ h1 (fun kv z => nomatch z), kp _ _ h2 fun kv z => nomatch z⟩
        · rcases List.mem_cons.mp ht1 with e1 | ht1
          · have := kq et6 (fun kv z => nomatch z)
            rw [e1] at et1
            rw [et1] at this
            cases this
            exact .inr rfl
          · obtain ⟨i1, hi1⟩ := List.getElem?_of_mem ht1
            have il1 := (List.getElem?_eq_some_iff.mp hi1).1
            have pl1 := P.len
            have hp1 : rs[i1]? = some (rs[i1]'(by omega)) := List.getElem?_eq_getElem (by omega)
            obtain ⟨da', h1, h2⟩ := P.at_ i1 t1 _ hi1 hp1
            have := kp _ _ h1 (fun kv z => nomatch z)
            rw [et1] at this
            cases this
            exact .inl (fd t1 _ da1 ht1 h1)
      generalize (tSeq (tIfS (tTest (tOp (rSame K) (tCB (rLenD) (tCons (tFld K (tVar 0) "pieces") (tNil))) (tC (.int 60)))) (tRz (fun cls d _ H => E cls d H) (He.ga K "Full")) (tNext)) (sDPut (tFld K (tVar 0) "pieces") (tVar 1) (tTup (tCons (tVar 3) (tCons (tFun (sp_press_by K) [] (fun _ => E) (tCons (tOp (rIx K) (tMth "read_chain" (one (He.ga K "Store") (sp_Store_read_chain K)) (fun _ => E) (tVar 0) (tCons (tVar 3) (tNil))) (tC (.int 0))) (tCons (tVar 4) (tNil)))) (tNil)))))) = R at rest2 ⊢
      rcases b with _ | c
      · refine difNY rfl ?_
        walk_at "gn"
        exact rest2 _ rfl
      · refine difNX (by intro z; cases z) ?_
        walk_at "gn"
        obtain ⟨p, hp, e⟩ := hb c rfl
        obtain ⟨t, dg⟩ := kvs_has sk P.len ed2 hp
        rw [e] at dg
        refine dnin_yes dg ?_
        walk_at "gn"
        exact rest2 _ rfl
    exact head rfl rfl rfl nok hta (tok.mono (by decide)) (fun c z => by obtain ⟨p, hp, e⟩ := hb c z; rw [← e]; exact sk.nmok p hp) fun H1 Q1 s1 q1 => fits hta (tok.mono (by decide)) len H1 Q1 s1 fun l H2 nl s2 el => q1 l H2 nl s2 el (rest l H2 nl s2 el)
end
/-! a store: what it tells; a piece dropped -/
section
variable (K : PySem.W.Frag) [HasCls K "Store"] [HasNo K "Store" "kinds"] [HasNo K "Store" "longest"] [HasNo K "Store" "pieces"]
/-- a name that is asked for: refused, or a piece's -/
def Ask1 (K : PySem.W.Frag) (x y : V) (H : Hp) (E : XK) (T : Addr → Addr → List Lk → Nat → List Pc → Pc → Prop) : Prop := ∃ (a d : Addr) (ks : List Lk) (m : Nat) (rs : List Pc), x = .ref a ∧ StoreAt K H a d ks m rs ∧ LksOk ks ∧ m ≤ 1000 ∧ Stk m rs ∧ rs.length ≤ 60 ∧ ((∃ C, Asked K H rs y C ∧ E (.ref (He.ga K C)) none H) ∨ ∃ p ∈ rs, y = .str p.nm ∧ T a d ks m rs p)
def F_Store_text_of (K : PySem.W.Frag) : V → V → Hp → VK → XK → Prop := fun x y H Q E => Ask1 K x y H E fun _ _ _ _ _ p => ∀ l H', H l = none → Same H H' → H' l = some (.lst (p.tx.map V.int)) → Q (.ref l) H'
abbrev sp_Store_text_of (K : PySem.W.Frag) : Sp := on2 (F_Store_text_of K)
def t_Store_text_of (K : PySem.W.Frag) (E : XK) : TS :=
  tSeq (tDrop (tMth "sought_piece" (one (He.ga K "Store") (sp_Store_sought_piece K)) (fun _ => E) (tVar 0) (tCons (tVar 1) (tNil))))
  (tRet (tOp (rIx K) (tOp (rIx K) (tMth "read_chain" (one (He.ga K "Store") (sp_Store_read_chain K)) (fun _ => E) (tVar 0) (tCons (tVar 1) (tNil))) (tC (.int 1))) (tUn rNeg (tC (.int 1)))))
theorem pure_Store_text_of {x y : V} {H : Hp} {Q : VK} {E : XK} (h : F_Store_text_of K x y H Q E) : t_Store_text_of K E ⟨fun _ H' => Q .non H', Q, fun _ _ => False, fun _ _ => False⟩ [some x, some y] H := by
  obtain ⟨a, d, ks, m, rs, rfl, St, ok, hm, sk, h60, h⟩ := h
  obtain ⟨dx, kl, las, ts, ea, L, ed, P⟩ := id St
  unfold t_Store_text_of
  walk_at "gn"
  rcases h with ⟨C, A, r⟩ | ⟨p, hp, rfl, q⟩
  · exact ⟨a, d, ks, m, rs, rfl, St, sk, .inl ⟨C, A, r⟩⟩
  · refine ⟨a, d, ks, m, rs, rfl, St, sk, .inr ⟨p, hp, rfl, fun t da _ _ => ?_⟩⟩
    walk_at "gn"
    refine ⟨a, d, ks, m, rs, some p.nm, rfl, rfl, St, ok, hm, sk, h60, (fun n e => ⟨p, hp, by cases e; rfl⟩), fun r h tl tas Fp H1 nr s1 er A new T ntl nt nd => ?_⟩
    have el := T.lst
    walk_at "gn"
    have e1 : lrn rs (some p.nm) = lrn rs p.bs ++ [p.tx] := by unfold lrn; rw [upR_at sk p hp, List.map_append]; rfl
    have tl1 : tas.length = (lrn rs p.bs).length + 1 := by rw [T.len, e1, List.length_append, List.length_singleton]
    have hg : tas[(lrn rs p.bs).length]? = some (tas[(lrn rs p.bs).length]'(by omega)) := List.getElem?_eq_getElem (by omega)
    generalize tas[(lrn rs p.bs).length]'(by omega) = t0 at hg
    have et := T.at_ _ t0 p.tx hg (by rw [e1, List.getElem?_append_right (Nat.le_refl _), Nat.sub_self]; rfl)
    refine g_ixL (v := .ref t0) (sq_of el) ?_ ?_
    · unfold atI ixN
      rw [List.length_map, if_neg (by decide), if_pos (by omega)]
      show (tas.map V.ref)[(-1 + (tas.length : Int)).toNat]? = _
      rw [List.getElem?_map, show (-1 + (tas.length : Int)).toNat = (lrn rs p.bs).length by omega, hg]
      rfl
    · exact q t0 H1 (nt t0 (List.mem_of_getElem? hg)).1 s1 et
def F_Store_bytes_of (K : PySem.W.Frag) : V → V → Hp → VK → XK → Prop := fun x y H Q E => Ask1 K x y H E fun _ _ ks _ rs p => ∀ l H', H l = none → Same H H' → H' l = some (.lst ((pcB ks rs p).map V.int)) → Q (.ref l) H'
abbrev sp_Store_bytes_of (K : PySem.W.Frag) : Sp := on2 (F_Store_bytes_of K)
def F_Store_base_of (K : PySem.W.Frag) : V → V → Hp → VK → XK → Prop := fun x y H Q E => Ask1 K x y H E fun _ _ _ _ _ p => Q (bV p.bs) H
abbrev sp_Store_base_of (K : PySem.W.Frag) : Sp := on2 (F_Store_base_of K)
def t_Store_base_of (K : PySem.W.Frag) (E : XK) : TS :=
  tRet (tOp (rIx K) (tMth "sought_piece" (one (He.ga K "Store") (sp_Store_sought_piece K)) (fun _ => E) (tVar 0) (tCons (tVar 1) (tNil))) (tC (.int 0)))
theorem pure_Store_base_of {x y : V} {H : Hp} {Q : VK} {E : XK} (h : F_Store_base_of K x y H Q E) : t_Store_base_of K E ⟨fun _ H' => Q .non H', Q, fun _ _ => False, fun _ _ => False⟩ [some x, some y] H := by
  obtain ⟨a, d, ks, m, rs, rfl, St, ok, hm, sk, h60, h⟩ := h
  obtain ⟨dx, kl, las, ts, ea, L, ed, P⟩ := id St
  unfold t_Store_base_of
  walk_at "gn"
  rcases h with ⟨C, A, r⟩ | ⟨p, hp, rfl, q⟩
  · exact ⟨a, d, ks, m, rs, rfl, St, sk, .inl ⟨C, A, r⟩⟩
  · refine ⟨a, d, ks, m, rs, rfl, St, sk, .inr ⟨p, hp, rfl, fun t da et eda => ?_⟩⟩
    walk_at "gn"
    exact q
def F_Store_learned_of (K : PySem.W.Frag) : V → V → Hp → VK → XK → Prop := fun x y H Q E => Ask1 K x y H E fun _ _ _ _ rs p => ∀ l tas H', H l = none → Same H H' → TextsH H' l tas (lrn rs p.bs) → (∀ t ∈ tas, H t = none ∧ t ≠ l) → tas.Nodup → Q (.ref l) H'
abbrev sp_Store_learned_of (K : PySem.W.Frag) : Sp := on2 (F_Store_learned_of K)
def t_Store_learned_of (K : PySem.W.Frag) (E : XK) : TS :=
  tRet (tOp (rIx K) (tMth "read_chain" (one (He.ga K "Store") (sp_Store_read_chain K)) (fun _ => E) (tVar 0) (tCons (tOp (rIx K) (tMth "sought_piece" (one (He.ga K "Store") (sp_Store_sought_piece K)) (fun _ => E) (tVar 0) (tCons (tVar 1) (tNil))) (tC (.int 0))) (tNil))) (tC (.int 1)))
theorem pure_Store_learned_of {x y : V} {H : Hp} {Q : VK} {E : XK} (h : F_Store_learned_of K x y H Q E) : t_Store_learned_of K E ⟨fun _ H' => Q .non H', Q, fun _ _ => False, fun _ _ => False⟩ [some x, some y] H := by
  obtain ⟨a, d, ks, m, rs, rfl, St, ok, hm, sk, h60, h⟩ := h
  obtain ⟨dx, kl, las, ts, ea, L, ed, P⟩ := id St
  unfold t_Store_learned_of
  walk_at "gn"
  rcases h with ⟨C, A, r⟩ | ⟨p, hp, rfl, q⟩
  · exact ⟨a, d, ks, m, rs, rfl, St, sk, .inl ⟨C, A, r⟩⟩
  · refine ⟨a, d, ks, m, rs, rfl, St, sk, .inr ⟨p, hp, rfl, fun t da et eda => ?_⟩⟩
    walk_at "gn"
    refine ⟨a, d, ks, m, rs, p.bs, rfl, rfl, St, ok, hm, sk, h60, sk.has p hp, fun r h tl tas Fp H1 nr s1 er A new T ntl nt nd => ?_⟩
    walk_at "gn"
    exact q tl tas H1 ntl s1 T nt nd
/-- what is asked of a store as a whole -/
def F_Store_names (K : PySem.W.Frag) : V → Hp → VK → XK → Prop := fun x H Q _ => ∃ (a d : Addr) (ks : List Lk) (m : Nat) (rs : List Pc), x = .ref a ∧ StoreAt K H a d ks m rs ∧ ∀ l H', H l = none → Same H H' → H' l = some (.lst (rs.reverse.map fun p => V.str p.nm)) → Q (.ref l) H'
abbrev sp_Store_names (K : PySem.W.Frag) : Sp := on1 (F_Store_names K)
theorem kvs_names {rs : List Pc} {ts : List Addr} (l : ts.length = rs.length) : (kvs rs ts).map (fun kv => kV kv.1) = rs.reverse.map fun p => V.str p.nm := by
  unfold kvs
  rw [List.map_reverse, List.map_map, ← List.map_reverse]
  conv => rhs; rw [← zip_fst l, ← List.map_reverse, List.map_map]
  rfl
def F_Store_told_looks (K : PySem.W.Frag) : V → Hp → VK → XK → Prop := fun x H Q _ => ∃ (a d : Addr) (ks : List Lk) (m : Nat) (rs : List Pc), x = .ref a ∧ StoreAt K H a d ks m rs ∧ ∀ l las H', H l = none → Same H H' → LooksH H' l las ks → Q (.ref l) H'
abbrev sp_Store_told_looks (K : PySem.W.Frag) : Sp := on1 (F_Store_told_looks K)
def F_Store_most_signs (K : PySem.W.Frag) : V → Hp → VK → XK → Prop := fun x H Q _ => ∃ (a d : Addr) (ks : List Lk) (m : Nat) (rs : List Pc), x = .ref a ∧ StoreAt K H a d ks m rs ∧ Q (.int m) H
abbrev sp_Store_most_signs (K : PySem.W.Frag) : Sp := on1 (F_Store_most_signs K)
def F_Store_drop (K : PySem.W.Frag) : V → V → Hp → VK → XK → Prop := fun x y H Q E => Ask1 K x y H E fun a d ks m rs p => (¬ Bare rs p.nm → E (.ref (He.ga K "InUse")) none H) ∧ (Bare rs p.nm → ∀ H', SameX (· = d) H H' → StoreAt K H' a d ks m (rmv rs p.nm) → Q .non H')
abbrev sp_Store_drop (K : PySem.W.Frag) : Sp := on2 (F_Store_drop K)
def t_Store_drop (K : PySem.W.Frag) (E : XK) : TS :=
  tSeq (tDrop (tMth "sought_piece" (one (He.ga K "Store") (sp_Store_sought_piece K)) (fun _ => E) (tVar 0) (tCons (tVar 1) (tNil))))
  (tSeq (tLockX (fun WL1 => tFor (iVals (tFld K (tVar 0) "pieces")) (gTup K 2 (gCons (gName 2) (gCons (gName 3) (gNil)))) (tIfS (tTest (tOp (rSame K) (tVar 2) (tVar 1))) (tRz WL1 (He.ga K "InUse")) (tNext))) (fun cls d _ H => E cls d H))
  (tDrop (tDPop1 (tFld K (tVar 0) "pieces") (tVar 1))))
theorem pure_Store_drop {x y : V} {H : Hp} {Q : VK} {E : XK} (h : F_Store_drop K x y H Q E) : t_Store_drop K E ⟨fun _ H' => Q .non H', Q, fun _ _ => False, fun _ _ => False⟩ [some x, some y, none, none] H := by
  obtain ⟨a, d, ks, m, rs, rfl, St, ok, hm, sk, h60, h⟩ := h
  obtain ⟨dx, kl, las, ts, ea, L, ed, P⟩ := id St
  unfold t_Store_drop
  walk_at "gn"
  rcases h with ⟨C, A, r⟩ | ⟨p, hp, rfl, r, q⟩
  · exact ⟨a, d, ks, m, rs, rfl, St, sk, .inl ⟨C, A, r⟩⟩
  · refine ⟨a, d, ks, m, rs, rfl, St, sk, .inr ⟨p, hp, rfl, fun t da et eda => ?_⟩⟩
    walk_at "gn"
    refine g_lockX ed fun od => ?_
    have el0 : (upd H d (.frz od (.dK (kvs rs ts)))) d = some (.frz od (.dK (kvs rs ts))) := upd_same
    have da0 : d ≠ a := fun z => by rw [z, ea] at ed; cases ed
    refine g_forV ?_
    walk_at "gn"
    have key : ∀ (i : Nat) x, (kvs rs ts)[i]? = some x → ∃ q t, (rs.zip ts).reverse[i]? = some (q, t) ∧ x = ((.inr q.nm : Key), V.ref t) := fun i x h => by
      unfold kvs at h
      rw [← List.map_reverse, List.getElem?_map] at h
      cases e : (rs.zip ts).reverse[i]? with
      | none => rw [e] at h; cases h
      | some y => rw [e] at h; exact ⟨y.1, y.2, rfl, (Option.some.inj h).symm⟩
    refine for_V (o := od) (kv := kvs rs ts) (fun i σ H1 => ∃ u2 u3, σ = [some (.ref a), some (.str p.nm), u2, u3] ∧ H1 = upd H d (.frz od (.dK (kvs rs ts))) ∧ ∀ j q t, j < i → (rs.zip ts).reverse[j]? = some (q, t) → q.bs ≠ some p.nm) ⟨_, _, rfl, rfl, fun j q t h => by omega⟩ ?_ ?_ ?_
    · rintro i σ H1 ⟨u2, u3, rfl, rfl, -⟩
      exact el0
    · rintro i k v σ H1 hk ⟨u2, u3, rfl, rfl, al⟩
      obtain ⟨q', t', hz, e⟩ := key i _ hk
      cases e
      have hm2 := List.mem_reverse.mp (List.mem_of_getElem? hz)
      obtain ⟨j, hj⟩ := List.getElem?_of_mem hm2
      rw [List.getElem?_zip_eq_some] at hj
      obtain ⟨da', et', -⟩ := P.at_ j t' q' hj.2 hj.1
      have et2 : (upd H d (.frz od (.dK (kvs rs ts)))) t' = some (.tup [bV q'.bs, .ref da']) := lk_mut (fun z => by rw [z, ed] at et'; cases et') et'
      refine ⟨t', [bV q'.bs, .ref da'], rfl, stt_of et2, rfl, ?_⟩
      walk_at "gn"
      refine g_sameF (by cases q'.bs <;> rfl) ?_
      walk_at "gn"
      refine dif (fun c => ?_) fun c => ?_
      · walk_at "gn"
        refine ⟨el0, ?_⟩
        rw [upd_upd, upd_id ed]
        refine r fun b => b q' (List.mem_of_getElem? hj.1) ?_
        cases eb : q'.bs with
        | none => rw [eb] at c; cases c
        | some x => rw [eb] at c; cases c; rfl
      · walk_at "gn"
        refine ⟨_, _, rfl, rfl, fun j' q2 t2 hj' hz2 => ?_⟩
        rcases Nat.lt_or_ge j' i with lt | ge
        · exact al j' q2 t2 lt hz2
        · have : j' = i := by omega
          subst this
          rw [hz] at hz2
          cases hz2
          exact fun z => c (by rw [z]; rfl)
    · rintro σ H1 ⟨u2, u3, rfl, rfl, al⟩
      have bare : Bare rs p.nm := fun q2 hq2 => by
        obtain ⟨j, hj⟩ := List.getElem?_of_mem hq2
        have jl := (List.getElem?_eq_some_iff.mp hj).1
        have pl := P.len
        have hz : (rs.zip ts)[j]? = some (q2, ts[j]'(by omega)) := List.getElem?_zip_eq_some.mpr ⟨hj, List.getElem?_eq_getElem (by omega)⟩
        obtain ⟨i, hi⟩ := List.getElem?_of_mem (List.mem_reverse.mpr (List.mem_of_getElem? hz))
        have il := (List.getElem?_eq_some_iff.mp hi).1
        refine al i q2 _ ?_ hi
        rw [List.length_reverse] at il
        rw [kvs_len P.len]
        rw [List.length_zip] at il
        omega
      refine ⟨el0, ?_⟩
      rw [upd_upd, upd_id ed]
      walk_at "gn"
      refine g_dpop ?_
      walk_at "gn"
      refine ⟨d, rfl, .inl ⟨_, .inl ed⟩, ?_⟩
      walk_at "gn"
      obtain ⟨i, hi⟩ := List.getElem?_of_mem hp
      have il := (List.getElem?_eq_some_iff.mp hi).1
      have pl := P.len
      have ht : ts[i]? = some (ts[i]'(by omega)) := List.getElem?_eq_getElem (by omega)
      generalize ts[i]'(by omega) = t0 at ht
      have vv := kvs_at sk pl i t0 p ht hi
      suffices hh : Q .non (upd H d (.dK (dropK (kvs rs ts) (.inr p.nm)))) from ⟨kvs rs ts, .inr p.nm, .ref t0, ed, rfl, vv, hh⟩
      obtain ⟨ts', e, P'⟩ := drop_at P bare
      rw [e]
      have X : SameX (· = d) H (upd H d (.dK (kvs (rmv rs p.nm) ts'))) := (SameX.refl H).mut rfl
      have kp : ∀ b o, H b = some o → (∀ kv, o ≠ .dK kv) → (upd H d (.dK (kvs (rmv rs p.nm) ts'))) b = some o := fun b o hb no => lk_mut (fun z => by rw [z, ed] at hb; cases hb; exact no _ rfl) hb
      refine q bare _ X ⟨dx, kl, las, ts', kp _ _ ea (fun kv z => nomatch z), ⟨kp _ _ L.lst (fun kv z => nomatch z), L.len, fun i x k hx hk => ?_⟩, upd_same, P'.len, fun i t p' ht' hp' => ?_⟩
      · obtain ⟨c, h1, h2⟩ := L.at_ i x k hx hk
        exact ⟨c, kp _ _ h1 (fun kv z => nomatch z), kp _ _ h2 fun kv z => nomatch z⟩
      · obtain ⟨da', h1, h2⟩ := P'.at_ i t p' ht' hp'
        exact ⟨da', kp _ _ h1 (fun kv z => nomatch z), kp _ _ h2 fun kv z => nomatch z⟩
theorem store_new {H : Hp} {l : Addr} {las : List Addr} {ks : List Lk} {m : Nat} {a dx : Addr} {Q : Hp → Prop} {E : XK} (L : LooksH H l las ks) (ok : LksOk ks) (hm : m ≤ 1000) (na : H a = none) (ndx : H dx = none) (nad : dx ≠ a)
    (q : ∀ d H' Fp, H d = none → Same H H' → (∀ x, Fp x → H x = none) → StoreFp K H' a d ks m [] Fp → Q H') : F_Store_init K (.ref a) (.ref l) (.int m) (upd (upd H dx (.own a)) a (.ins (He.ga K "Store") dx [])) (fun v H2 => v = .non ∧ Q H2) E := by
  have S0 : Same H (upd (upd H dx (.own a)) a (.ins (He.ga K "Store") dx [])) := same_mut (same_mut (Same.refl H) ndx) na
  refine ⟨a, dx, rfl, upd_same, .inr ⟨l, las, ks, rfl, L.same S0, ok, (fun H' _ => .int), (fun z => ?_), fun m' e _ d H' Fp nd X f A => ?_⟩⟩
  · rw [btw, decide_eq_true (by omega), decide_eq_true (by omega)] at z
    cases z
  · cases Int.ofNat.inj (V.int.inj e)
    exact ⟨rfl, q d H' Fp (S0.free nd) (SameX.back1 S0 X na) (fun x hx => S0.free (f x hx)) A⟩
end
/-! k41: what a piece is learned from -/
/-- the law's own pieces: for each a tuple of the texts it is learned from, and its text -/
structure ModL (H : Hp) (all rs : List Pc) (mts : List Addr) : Prop where
  len : mts.length = rs.length
  at_ : ∀ (i : Nat) t p, mts[i]? = some t → rs[i]? = some p → ∃ la ta tas, H t = some (.tup [.ref la, .ref ta]) ∧ TextsH H la tas (lrn all p.bs) ∧ H ta = some (.lst (p.tx.map V.int))
theorem ModL.keep {M : Addr → Prop} {H H1 : Hp} {all rs : List Pc} {mts : List Addr} (h : ModL H all rs mts) (s : SameX M H H1) (hM : ∀ b o, M b → H b = some o → ∃ kv, o = .dK kv) : ModL H1 all rs mts := by
  have kp : ∀ b o, H b = some o → (∀ kv, o ≠ .dK kv) → H1 b = some o := fun b o hb no => s.kp b o (fun z => by obtain ⟨kv, q⟩ := hM b o z hb; exact no kv q) hb
  refine ⟨h.len, fun i t p ht hp => ?_⟩
  obtain ⟨la, ta, tas, h1, h2, h3⟩ := h.at_ i t p ht hp
  exact ⟨la, ta, tas, kp _ _ h1 (fun kv z => nomatch z), ⟨kp _ _ h2.lst (fun kv z => nomatch z), h2.len, fun j a x ha hx => kp _ _ (h2.at_ j a x ha hx) fun kv z => nomatch z⟩, kp _ _ h3 fun kv z => nomatch z⟩
theorem ModL.same {H H1 : Hp} {all rs : List Pc} {mts : List Addr} (h : ModL H all rs mts) (s : Same H H1) : ModL H1 all rs mts := h.keep (M := fun _ => False) (SameX.of s) fun _ _ z => z.elim
theorem ModL.put {m : Nat} {H : Hp} {rs : List Pc} {mts : List Addr} {p : Pc} {t la ta : Addr} {tas : List Addr} (h : ModL H rs rs mts) (sk : Stk m (p :: rs)) (ht : H t = some (.tup [.ref la, .ref ta])) (hl : TextsH H la tas (lrn rs p.bs)) (hx : H ta = some (.lst (p.tx.map V.int))) : ModL H (p :: rs) (p :: rs) (t :: mts) := by
  have old : ∀ q ∈ p :: rs, lrn (p :: rs) q.bs = lrn rs q.bs := fun q hq => by unfold lrn; rw [upR_miss (sk.base_old hq)]
  refine ⟨by rw [List.length_cons, List.length_cons, h.len], fun i u q hu hq => ?_⟩
  rcases i with _ | i
  · cases hu
    cases hq
    exact ⟨la, ta, tas, ht, by rw [old p List.mem_cons_self]; exact hl, hx⟩
  · have hq' : rs[i]? = some q := hq
    obtain ⟨l1, t1, a1, h1, h2, h3⟩ := h.at_ i u q hu hq'
    exact ⟨l1, t1, a1, h1, by rw [old q (List.mem_cons_of_mem _ (List.mem_of_getElem? hq'))]; exact h2, h3⟩
theorem TextsH.more {H : Hp} {l la ta : Addr} {tas : List Addr} {ts : List (List Int)} {t : List Int} (T : TextsH H la tas ts) (ex : H ta = some (.lst (t.map V.int))) (el : H l = some (.lst (tas.map V.ref ++ [.ref ta]))) : TextsH H l (tas ++ [ta]) (ts ++ [t]) := by
  refine ⟨by rw [el, List.map_append]; rfl, by rw [List.length_append, List.length_append, T.len]; rfl, fun i a x ha hx => ?_⟩
  have tl := T.len
  rw [List.getElem?_append] at ha hx
  split at ha
  · rename_i c
    rw [if_pos (by omega)] at hx
    exact T.at_ i a x ha hx
  · rename_i c
    rw [if_neg (by omega)] at hx
    have hi := (List.getElem?_eq_some_iff.mp ha).1
    rw [List.length_singleton] at hi
    have z : i = tas.length := by omega
    subst z
    rw [Nat.sub_self] at ha
    rw [tl, Nat.sub_self] at hx
    cases ha
    cases hx
    exact ex
theorem lrn_some {m : Nat} {rs : List Pc} (sk : Stk m rs) {p : Pc} (hp : p ∈ rs) : lrn rs (some p.nm) = lrn rs p.bs ++ [p.tx] := by
  unfold lrn
  rw [upR_at sk p hp, List.map_append]
  rfl
/-- what stands behind the first i pieces -/
structure At41 (K : PySem.W.Frag) (H H' : Hp) (st d md : Addr) (ks : List Lk) (names : List (List Nat)) (i : Nat) (rs : List Pc) (mts : List Addr) : Prop where
  S : Same H H'
  St : StoreAt K H' st d ks 1000 rs
  md_ : H' md = some (.dK (kvs rs mts))
  ml : ModL H' rs rs mts
  sk : Stk 1000 rs
  ne : d ≠ md
  nd : H d = none
  nm : H md = none
  na : Named names i rs
theorem At41.same {K : PySem.W.Frag} {H H' H1 : Hp} {st d md : Addr} {ks : List Lk} {names : List (List Nat)} {i : Nat} {rs : List Pc} {mts : List Addr} (h : At41 K H H' st d md ks names i rs mts) (s : Same H' H1) : At41 K H H1 st d md ks names i rs mts :=
  ⟨Same.trans h.S s, h.St.same s, s _ _ h.md_, h.ml.same s, h.sk, h.ne, h.nd, h.nm, h.na⟩
section
variable (K : PySem.W.Frag) [HasCls K "Store"] [HasNo K "Store" "kinds"] [HasNo K "Store" "longest"] [HasNo K "Store" "pieces"]
def F_law (K : PySem.W.Frag) : V → Hp → VK → XK → Prop := fun x H Q _ => ∃ (a : Addr) (ns : List Int), x = .ref a ∧ SqL K H a (ns.map V.int) ∧ ns.length ≤ 63 ∧ ∀ H', Q (.bl true) H'
abbrev sp_law (K : PySem.W.Frag) : Sp := on1 (F_law K)
def t_law (K : PySem.W.Frag) (E : XK) : TS :=
  tSeq (tAsg (tFun (sp_Llooks K) [] (fun _ => E) (tCons (tFun (sp_Lmixed K) [] (fun _ => E) (tCons (tVar 0) (tCons (tC (.int 0)) (tNil)))) (tCons (tC (.int 1)) (tNil)))) (gName 1))
  (tSeq (tAsg (tOp (rPlus K) (tC (.int 1)) (tOp (rRest) (tFun (sp_Lmixed K) [] (fun _ => E) (tCons (tVar 0) (tCons (tC (.int 12)) (tNil)))) (tC (.int 5)))) (gName 2))
  (tSeq (tIfS (tTest (tOp (rSame K) (tOp (rRest) (tOp (rFloor) (tFun (sp_Lmixed K) [] (fun _ => E) (tCons (tVar 0) (tCons (tC (.int 12)) (tNil)))) (tC (.int 5))) (tC (.int 2))) (tC (.int 1)))) (tAsg (tC (.int 9)) (gName 2)) (tNext))
  (tSeq (tAsg (tFun (sp_Lnames K) [] (fun _ => E) (tCons (tFun (sp_Lmixed K) [] (fun _ => E) (tCons (tVar 0) (tCons (tC (.int 1)) (tNil)))) (tCons (tVar 2) (tNil)))) (gName 3))
  (tSeq (tAsg (tNew (He.ga K "Store") (sp_Store_init K) [.int 1000] (fun _ => E) (tCons (tVar 1) (tNil))) (gName 4))
  (tSeq (tAsg (tDNewK) (gName 5))
  (tSeq (tFor (iRng1 (tCons (tVar 2) (tNil))) (gName 6) (tSeq (tAsg (tFun (sp_Lmixed K) [] (fun _ => E) (tCons (tVar 0) (tCons (tOp (rPlus K) (tC (.int 2)) (tVar 6)) (tNil)))) (gName 7))
  (tSeq (tAsg (tOp (rTimes) (tLst (tCons (tOp (rRest) (tVar 7) (tC (.int 256))) (tNil))) (tOp (rRest) (tOp (rFloor) (tVar 7) (tC (.int 256))) (tC (.int 2)))) (gName 8))
  (tSeq (tAsg (tC .non) (gName 9))
  (tSeq (tAsg (tLst (tNil)) (gName 10))
  (tSeq (tIfS (tAnd (tTest (tOp (iGt) (tVar 6) (tC (.int 0)))) (tOr (tTest (tOp (rSame K) (tVar 2) (tC (.int 9)))) (tTest (tOp (iGt) (tOp (rRest) (tOp (rFloor) (tVar 7) (tC (.int 1024))) (tC (.int 5))) (tC (.int 0)))))) (tSeq (tAsg (tOp (rIx K) (tVar 3) (tOp (rMinus) (tVar 6) (tC (.int 1)))) (gName 9))
  (tSeq (tIfS (tAnd (tTest (tOp (iLt) (tVar 2) (tC (.int 9)))) (tTest (tOp (iGt) (tOp (rRest) (tOp (rFloor) (tVar 7) (tC (.int 1024))) (tC (.int 5))) (tC (.int 2))))) (tAsg (tOp (rIx K) (tVar 3) (tOp (rRest) (tOp (rFloor) (tVar 7) (tC (.int 8192))) (tVar 6))) (gName 9)) (tNext))
  (tAsg (tOp (rPlus K) (tOp (rIx K) (tDGet (tVar 5) (tVar 9)) (tC (.int 0))) (tLst (tCons (tOp (rIx K) (tDGet (tVar 5) (tVar 9)) (tC (.int 1))) (tNil)))) (gName 10)))) (tNext))
  (tSeq (tDrop (tMth "put" (one (He.ga K "Store") (sp_Store_put K)) (fun _ => E) (tVar 4) (tCons (tOp (rIx K) (tVar 3) (tVar 6)) (tCons (tCB (rListOf K) (tCons (tVar 8) (tNil))) (tCons (tVar 9) (tNil))))))
  (sDPut (tVar 5) (tOp (rIx K) (tVar 3) (tVar 6)) (tTup (tCons (tVar 10) (tCons (tVar 8) (tNil))))))))))))
  (tSeq (tFor (iRng1 (tCons (tC (.int 2)) (tNil))) (gName 11) (tLock (tFor (iKeys (tVar 5)) (gName 12) (tSeq (tAsg (tMth "learned_of" (one (He.ga K "Store") (sp_Store_learned_of K)) (fun _ => E) (tVar 4) (tCons (tVar 12) (tNil))) (gName 13))
  (tSeq (tIfS (tOr (tNot (tTru K (tCB (rIsi2 K) (tCons (tVar 13) (tCons (tC (.ty "list")) (tNil)))))) (tTest (tOp (rDiff K) (tVar 13) (tOp (rIx K) (tDGet (tVar 5) (tVar 12)) (tC (.int 0)))))) (tRet (tC (.bl false))) (tNext))
  (tSeq (tFor (iList K (tVar 13)) (gName 8) (tDrop (tBM K "list" (rAppend) (tVar 8) (tCons (tC (.int 1)) (tNil)))))
  (tDrop (tBM K "list" (rAppend) (tVar 13) (tCons (tLst (tCons (tC (.int 2)) (tNil))) (tNil))))))))))
  (tSeq (tAsg (tOp (rIx K) (tVar 3) (tOp (rMinus) (tVar 2) (tC (.int 1)))) (gName 14))
  (tSeq (tAsg (tOp (rIx K) (tLst (tCons (tOp (rIx K) (tVar 3) (tC (.int 0))) (tCons (tC .non) (tNil)))) (tCB (rInt1) (tCons (tOrV (tOp (rSame K) (tVar 2) (tC (.int 1))) (tOp (rNotNo) (tMth "base_of" (one (He.ga K "Store") (sp_Store_base_of K)) (fun _ => E) (tVar 4) (tCons (tVar 14) (tNil))) (tC .non))) (tNil)))) (gName 9))
  (tSeq (tAsg (tLst (tNil)) (gName 10))
  (tSeq (tIfS (tTest (tOp (rNotNo) (tVar 9) (tC .non))) (tAsg (tOp (rPlus K) (tOp (rIx K) (tDGet (tVar 5) (tVar 9)) (tC (.int 0))) (tLst (tCons (tOp (rIx K) (tDGet (tVar 5) (tVar 9)) (tC (.int 1))) (tNil)))) (gName 10)) (tNext))
  (tSeq (tDrop (tMth "drop" (one (He.ga K "Store") (sp_Store_drop K)) (fun _ => E) (tVar 4) (tCons (tVar 14) (tNil))))
  (tSeq (tDrop (tMth "put" (one (He.ga K "Store") (sp_Store_put K)) (fun _ => E) (tVar 4) (tCons (tVar 14) (tCons (tLst (tCons (tC (.int 7)) (tNil))) (tCons (tVar 9) (tNil))))))
  (tRet (tAndV (tOp (rSame K) (tMth "learned_of" (one (He.ga K "Store") (sp_Store_learned_of K)) (fun _ => E) (tVar 4) (tCons (tVar 14) (tNil))) (tVar 10)) (tOp (rSame K) (tMth "text_of" (one (He.ga K "Store") (sp_Store_text_of K)) (fun _ => E) (tVar 4) (tCons (tVar 14) (tNil))) (tLst (tCons (tC (.int 7)) (tNil)))))))))))))))))))
theorem pure_law {x : V} {H : Hp} {Q : VK} {E : XK} (h : F_law K x H Q E) : t_law K E ⟨fun _ H' => Q .non H', Q, fun _ _ => False, fun _ _ => False⟩ [some x, none, none, none, none, none, none, none, none, none, none, none, none, none, none] H := by
  obtain ⟨a, ns, rfl, hS, hl, q⟩ := h
  unfold t_law
  walk_at "gn"
  refine ⟨a, ns, 0, rfl, rfl, by decide, by decide, hS, fun v hv => ?_⟩
  walk_at "gn"
  refine ⟨v, 1, rfl, rfl, by decide, by decide, fun l las ks H1 ok kl nl s1 L => ?_⟩
  walk_at "gn"
  have hS1 := s1.seq hS
  refine ⟨a, ns, 12, rfl, rfl, by decide, by decide, hS1, fun v2 hv2 => ?_⟩
  walk_at "gn"
  refine ⟨a, ns, 12, rfl, rfl, by decide, by decide, hS1, fun v3 hv3 => ?_⟩
  have main : ∀ m : Nat, 1 ≤ m → m ≤ 9 → tSeq (tAsg (tFun (sp_Lnames K) [] (fun _ => E) (tCons (tFun (sp_Lmixed K) [] (fun _ => E) (tCons (tVar 0) (tCons (tC (.int 1)) (tNil)))) (tCons (tVar 2) (tNil)))) (gName 3)) (tSeq (tAsg (tNew (He.ga K "Store") (sp_Store_init K) [.int 1000] (fun _ => E) (tCons (tVar 1) (tNil))) (gName 4)) (tSeq (tAsg (tDNewK) (gName 5)) (tSeq (tFor (iRng1 (tCons (tVar 2) (tNil))) (gName 6) (tSeq (tAsg (tFun (sp_Lmixed K) [] (fun _ => E) (tCons (tVar 0) (tCons (tOp (rPlus K) (tC (.int 2)) (tVar 6)) (tNil)))) (gName 7)) (tSeq (tAsg (tOp (rTimes) (tLst (tCons (tOp (rRest) (tVar 7) (tC (.int 256))) (tNil))) (tOp (rRest) (tOp (rFloor) (tVar 7) (tC (.int 256))) (tC (.int 2)))) (gName 8)) (tSeq (tAsg (tC .non) (gName 9)) (tSeq (tAsg (tLst (tNil)) (gName 10)) (tSeq (tIfS (tAnd (tTest (tOp (iGt) (tVar 6) (tC (.int 0)))) (tOr (tTest (tOp (rSame K) (tVar 2) (tC (.int 9)))) (tTest (tOp (iGt) (tOp (rRest) (tOp (rFloor) (tVar 7) (tC (.int 1024))) (tC (.int 5))) (tC (.int 0)))))) (tSeq (tAsg (tOp (rIx K) (tVar 3) (tOp (rMinus) (tVar 6) (tC (.int 1)))) (gName 9)) (tSeq (tIfS (tAnd (tTest (tOp (iLt) (tVar 2) (tC (.int 9)))) (tTest (tOp (iGt) (tOp (rRest) (tOp (rFloor) (tVar 7) (tC (.int 1024))) (tC (.int 5))) (tC (.int 2))))) (tAsg (tOp (rIx K) (tVar 3) (tOp (rRest) (tOp (rFloor) (tVar 7) (tC (.int 8192))) (tVar 6))) (gName 9)) (tNext)) (tAsg (tOp (rPlus K) (tOp (rIx K) (tDGet (tVar 5) (tVar 9)) (tC (.int 0))) (tLst (tCons (tOp (rIx K) (tDGet (tVar 5) (tVar 9)) (tC (.int 1))) (tNil)))) (gName 10)))) (tNext)) (tSeq (tDrop (tMth "put" (one (He.ga K "Store") (sp_Store_put K)) (fun _ => E) (tVar 4) (tCons (tOp (rIx K) (tVar 3) (tVar 6)) (tCons (tCB (rListOf K) (tCons (tVar 8) (tNil))) (tCons (tVar 9) (tNil)))))) (sDPut (tVar 5) (tOp (rIx K) (tVar 3) (tVar 6)) (tTup (tCons (tVar 10) (tCons (tVar 8) (tNil)))))))))))) (tSeq (tFor (iRng1 (tCons (tC (.int 2)) (tNil))) (gName 11) (tLock (tFor (iKeys (tVar 5)) (gName 12) (tSeq (tAsg (tMth "learned_of" (one (He.ga K "Store") (sp_Store_learned_of K)) (fun _ => E) (tVar 4) (tCons (tVar 12) (tNil))) (gName 13)) (tSeq (tIfS (tOr (tNot (tTru K (tCB (rIsi2 K) (tCons (tVar 13) (tCons (tC (.ty "list")) (tNil)))))) (tTest (tOp (rDiff K) (tVar 13) (tOp (rIx K) (tDGet (tVar 5) (tVar 12)) (tC (.int 0)))))) (tRet (tC (.bl false))) (tNext)) (tSeq (tFor (iList K (tVar 13)) (gName 8) (tDrop (tBM K "list" (rAppend) (tVar 8) (tCons (tC (.int 1)) (tNil))))) (tDrop (tBM K "list" (rAppend) (tVar 13) (tCons (tLst (tCons (tC (.int 2)) (tNil))) (tNil)))))))))) (tSeq (tAsg (tOp (rIx K) (tVar 3) (tOp (rMinus) (tVar 2) (tC (.int 1)))) (gName 14)) (tSeq (tAsg (tOp (rIx K) (tLst (tCons (tOp (rIx K) (tVar 3) (tC (.int 0))) (tCons (tC .non) (tNil)))) (tCB (rInt1) (tCons (tOrV (tOp (rSame K) (tVar 2) (tC (.int 1))) (tOp (rNotNo) (tMth "base_of" (one (He.ga K "Store") (sp_Store_base_of K)) (fun _ => E) (tVar 4) (tCons (tVar 14) (tNil))) (tC .non))) (tNil)))) (gName 9)) (tSeq (tAsg (tLst (tNil)) (gName 10)) (tSeq (tIfS (tTest (tOp (rNotNo) (tVar 9) (tC .non))) (tAsg (tOp (rPlus K) (tOp (rIx K) (tDGet (tVar 5) (tVar 9)) (tC (.int 0))) (tLst (tCons (tOp (rIx K) (tDGet (tVar 5) (tVar 9)) (tC (.int 1))) (tNil)))) (gName 10)) (tNext)) (tSeq (tDrop (tMth "drop" (one (He.ga K "Store") (sp_Store_drop K)) (fun _ => E) (tVar 4) (tCons (tVar 14) (tNil)))) (tSeq (tDrop (tMth "put" (one (He.ga K "Store") (sp_Store_put K)) (fun _ => E) (tVar 4) (tCons (tVar 14) (tCons (tLst (tCons (tC (.int 7)) (tNil))) (tCons (tVar 9) (tNil)))))) (tRet (tAndV (tOp (rSame K) (tMth "learned_of" (one (He.ga K "Store") (sp_Store_learned_of K)) (fun _ => E) (tVar 4) (tCons (tVar 14) (tNil))) (tVar 10)) (tOp (rSame K) (tMth "text_of" (one (He.ga K "Store") (sp_Store_text_of K)) (fun _ => E) (tVar 4) (tCons (tVar 14) (tNil))) (tLst (tCons (tC (.int 7)) (tNil)))))))))))))))) ⟨fun _ H' => Q .non H', Q, fun _ _ => False, fun _ _ => False⟩ [some (.ref a), some (.ref l), some (.int m), none, none, none, none, none, none, none, none, none, none, none, none] H1 := by
    intro m m1 m9
    walk_at "gn"
    refine ⟨a, ns, 1, rfl, rfl, by decide, by decide, hS1, fun v4 hv4 => ?_⟩
    walk_at "gn"
    refine ⟨v4, m, rfl, rfl, hv4, m1, m9, fun nl names H2 nok nnl s2 enl => ?_⟩
    have Lk2 := L.same s2
    have hS2 := s2.seq hS1
    have nnl1 : H1 nl = none := nnl
    clear hv hv2 hv3 hv4
    walk_at "gn"
    intro st dx nst ndx nsd
    refine ⟨_, _, _, rfl, store_new K Lk2 ok (m := 1000) (by decide) nst ndx nsd fun d H3 _ nd s3 _ StF => ?_⟩
    have St := StF.at_
    have enl3 := s3 _ _ enl
    have hS3 := s3.seq hS2
    have s13 := Same.trans s2 s3
    walk_at "gn"
    intro md nmd
    have ne : d ≠ md := fun z => by obtain ⟨_, _, _, _, _, _, e, _⟩ := St; rw [z, nmd] at e; cases e
    have A0 : At41 K H2 (upd H3 md (.dK [])) st d md ks names 0 [] [] := ⟨same_new s3 nmd, St.same (same_new (Same.refl _) nmd), upd_same, ⟨rfl, fun i t p ht _ => by simp at ht⟩, .nil, ne, nd, s3.free nmd, rfl⟩
    generalize upd H3 md (.dK []) = H4 at A0 ⊢
    clear ne nmd enl3 hS3 s13 St s3 nst ndx nsd
    generalize hR : tSeq (tFor (iRng1 (tCons (tC (.int 2)) (tNil))) (gName 11) (tLock (tFor (iKeys (tVar 5)) (gName 12) (tSeq (tAsg (tMth "learned_of" (one (He.ga K "Store") (sp_Store_learned_of K)) (fun _ => E) (tVar 4) (tCons (tVar 12) (tNil))) (gName 13)) (tSeq (tIfS (tOr (tNot (tTru K (tCB (rIsi2 K) (tCons (tVar 13) (tCons (tC (.ty "list")) (tNil)))))) (tTest (tOp (rDiff K) (tVar 13) (tOp (rIx K) (tDGet (tVar 5) (tVar 12)) (tC (.int 0)))))) (tRet (tC (.bl false))) (tNext)) (tSeq (tFor (iList K (tVar 13)) (gName 8) (tDrop (tBM K "list" (rAppend) (tVar 8) (tCons (tC (.int 1)) (tNil))))) (tDrop (tBM K "list" (rAppend) (tVar 13) (tCons (tLst (tCons (tC (.int 2)) (tNil))) (tNil)))))))))) (tSeq (tAsg (tOp (rIx K) (tVar 3) (tOp (rMinus) (tVar 2) (tC (.int 1)))) (gName 14)) (tSeq (tAsg (tOp (rIx K) (tLst (tCons (tOp (rIx K) (tVar 3) (tC (.int 0))) (tCons (tC .non) (tNil)))) (tCB (rInt1) (tCons (tOrV (tOp (rSame K) (tVar 2) (tC (.int 1))) (tOp (rNotNo) (tMth "base_of" (one (He.ga K "Store") (sp_Store_base_of K)) (fun _ => E) (tVar 4) (tCons (tVar 14) (tNil))) (tC .non))) (tNil)))) (gName 9)) (tSeq (tAsg (tLst (tNil)) (gName 10)) (tSeq (tIfS (tTest (tOp (rNotNo) (tVar 9) (tC .non))) (tAsg (tOp (rPlus K) (tOp (rIx K) (tDGet (tVar 5) (tVar 9)) (tC (.int 0))) (tLst (tCons (tOp (rIx K) (tDGet (tVar 5) (tVar 9)) (tC (.int 1))) (tNil)))) (gName 10)) (tNext)) (tSeq (tDrop (tMth "drop" (one (He.ga K "Store") (sp_Store_drop K)) (fun _ => E) (tVar 4) (tCons (tVar 14) (tNil)))) (tSeq (tDrop (tMth "put" (one (He.ga K "Store") (sp_Store_put K)) (fun _ => E) (tVar 4) (tCons (tVar 14) (tCons (tLst (tCons (tC (.int 7)) (tNil))) (tCons (tVar 9) (tNil)))))) (tRet (tAndV (tOp (rSame K) (tMth "learned_of" (one (He.ga K "Store") (sp_Store_learned_of K)) (fun _ => E) (tVar 4) (tCons (tVar 14) (tNil))) (tVar 10)) (tOp (rSame K) (tMth "text_of" (one (He.ga K "Store") (sp_Store_text_of K)) (fun _ => E) (tVar 4) (tCons (tVar 14) (tNil))) (tLst (tCons (tC (.int 7)) (tNil)))))))))))) = R
    walk_at "gn"
    refine for_R1 (k := m) rfl (by omega) (fun i σ H5 => ∃ u6 u7 u8 u9 u10 rs mts, σ = [some (.ref a), some (.ref l), some (.int m), some (.ref nl), some (.ref st), some (.ref md), u6, u7, u8, u9, u10, none, none, none, none] ∧ At41 K H2 H5 st d md ks names i rs mts) ?_ ?_ ?_
    · exact ⟨_, _, _, _, _, [], [], rfl, A0⟩
    · rintro i σ H5 hi ⟨u6, u7, u8, u9, u10, rs, mts, rfl, A⟩
      have hS5 := A.S.seq hS2
      walk_at "gn"
      refine ⟨a, ns, 2 + (i : Int), rfl, rfl, by omega, by omega, hS5, fun v5 hv5 => ?_⟩
      walk_at "gn"
      rename_i p1 np1 tx ntx le nle
      have tok : TextOk 200 (List.replicate (v5 / 256 % 2).toNat (v5 % 256)) := ⟨by rw [List.length_replicate]; omega, fun z hz => by rw [List.eq_of_mem_replicate hz]; omega⟩
      have tl1 : (List.replicate (v5 / 256 % 2).toNat (v5 % 256)).length ≤ 1 := by rw [List.length_replicate]; omega
      generalize List.replicate (v5 / 256 % 2).toNat (v5 % 256) = tl at tok tl1 nle ⊢
      have s6 : Same H5 (upd (upd (upd H5 p1 (.lst (([v5 % 256] : List Int).map V.int))) tx (.lst (tl.map V.int))) le (.lst [])) := same_new (same_new (same_new (Same.refl _) np1) ntx) nle
      have etx : (upd (upd (upd H5 p1 (.lst (([v5 % 256] : List Int).map V.int))) tx (.lst (tl.map V.int))) le (.lst [])) tx = some (.lst (tl.map V.int)) := lk_new upd_same nle
      have ele : (upd (upd (upd H5 p1 (.lst (([v5 % 256] : List Int).map V.int))) tx (.lst (tl.map V.int))) le (.lst [])) le = some (.lst []) := upd_same
      replace A := A.same s6
      generalize upd (upd (upd H5 p1 (.lst (([v5 % 256] : List Int).map V.int))) tx (.lst (tl.map V.int))) le (.lst []) = H6 at A etx ele ⊢
      clear s6 nle ntx np1 hS5
      have rl := A.na.len nok (by omega)
      have body5 : ∀ (b : Option Str) (lr : Addr) (tas : List Addr) H7, Same H6 H7 → Has rs b → TextsH H7 lr tas (lrn rs b) → tSeq (tDrop (tMth "put" (one (He.ga K "Store") (sp_Store_put K)) (fun _ => E) (tVar 4) (tCons (tOp (rIx K) (tVar 3) (tVar 6)) (tCons (tCB (rListOf K) (tCons (tVar 8) (tNil))) (tCons (tVar 9) (tNil)))))) (sDPut (tVar 5) (tOp (rIx K) (tVar 3) (tVar 6)) (tTup (tCons (tVar 10) (tCons (tVar 8) (tNil))))) ⟨fun σ H5 => ∃ u6 u7 u8 u9 u10 rs mts, σ = [some (.ref a), some (.ref l), some (.int m), some (.ref nl), some (.ref st), some (.ref md), u6, u7, u8, u9, u10, none, none, none, none] ∧ At41 K H2 H5 st d md ks names (i + 1) rs mts, Q, R ⟨fun _ H' => Q .non H', Q, fun _ _ => False, fun _ _ => False⟩, fun σ H5 => ∃ u6 u7 u8 u9 u10 rs mts, σ = [some (.ref a), some (.ref l), some (.int m), some (.ref nl), some (.ref st), some (.ref md), u6, u7, u8, u9, u10, none, none, none, none] ∧ At41 K H2 H5 st d md ks names (i + 1) rs mts⟩ [some (.ref a), some (.ref l), some (.int m), some (.ref nl), some (.ref st), some (.ref md), some (.int (i : Int)), some (.int v5), some (.ref tx), some (bV b), some (.ref lr), none, none, none, none] H7 := by
        intro b lr tas H7 s7 hb T
        have A7 := A.same s7
        have etx7 := s7 _ _ etx
        have enl7 := A7.S _ _ enl
        obtain ⟨n, hn⟩ := nok.at_ hi
        have ean := nm_at hn
        obtain ⟨sdx, skl, slas, sts, es, _, _, _⟩ := id A7.St
        walk_at "gn"
        rename_i c nc
        have s8 := same_new (u := .lst (tl.map V.int)) (Same.refl H7) nc
        have ec : (upd H7 c (.lst (tl.map V.int))) c = some (.lst (tl.map V.int)) := upd_same
        have A8 := A7.same s8
        have T8 := T.same s8
        have etx8 := s8 _ _ etx7
        have enl8 := s8 _ _ enl7
        generalize upd H7 c (.lst (tl.map V.int)) = H8 at A8 T8 etx8 enl8 ec ⊢
        clear s8 nc A7 etx7 enl7 T es
        have sk2 : Stk 1000 (⟨Cs n, b, tl⟩ :: rs) := .cons A8.sk (nok.ok n (List.mem_of_getElem? hn)) (A8.na.new nok hn) (fun c e => hb c e) tok (by show tl.length ≤ 1000; omega)
        refine ⟨st, d, ks, 1000, rs, _, rfl, A8.St.fp, ok, by decide, A8.sk, by omega, .inr ⟨Cs n, c, tl, b, rfl, rfl, rfl, ec, sk2, by omega, fun H9 _ X9 _ St9F => ?_⟩⟩
        have St9 := St9F.at_
        have dK8 : ∀ b o, b = d → H8 b = some o → ∃ kv, o = .dK kv := fun b o e h => by
          obtain ⟨_, _, _, _, _, _, ed, _⟩ := A8.St
          rw [e, ed] at h
          cases h
          exact ⟨_, rfl⟩
        have mdk := A8.md_
        have md9 := X9.kp _ _ (fun e => A8.ne e.symm) mdk
        have ml9 := A8.ml.keep X9 dK8
        have kp9 : ∀ {b : Addr} {xs : List V}, H8 b = some (.lst xs) → H9 b = some (.lst xs) := fun {b xs} h => X9.kp _ _ (fun e => by obtain ⟨kv, z⟩ := dK8 _ _ e h; cases z) h
        have T9 : TextsH H9 lr tas (lrn rs b) := ⟨kp9 T8.lst, T8.len, fun j a x ha hx => kp9 (T8.at_ j a x ha hx)⟩
        have etx9 := kp9 etx8
        have enl9 := kp9 enl8
        have S9 : Same H2 H9 := X9.back A8.S fun b e => by rw [e]; exact nd
        refine g_dput ?_
        walk_at "gn"
        rename_i t nt
        have s10 := same_new (u := .tup [.ref lr, .ref tx]) (Same.refl H9) nt
        have et : (upd H9 t (.tup [.ref lr, .ref tx])) t = some (.tup [.ref lr, .ref tx]) := upd_same
        have md10 := s10 _ _ md9
        have ml10 := ml9.same s10
        have T10 := T9.same s10
        have etx10 := s10 _ _ etx9
        have enl10 := s10 _ _ enl9
        have St10 := St9.same s10
        have S10 := Same.trans S9 s10
        have ned := A8.ne
        have nmd := A8.nm
        have na := A8.na
        generalize upd H9 t (.tup [.ref lr, .ref tx]) = H10 at et md10 ml10 T10 etx10 enl10 St10 S10 ⊢
        clear s10 nt S9 enl9 etx9 T9 kp9 ml9 md9 mdk dK8 X9 St9
        walk_at "gn"
        have klen := kvs_len ml10.len
        refine ⟨md, _, rfl, DPut.k (k := .inr (Cs n)) md10 (Nat.lt_of_le_of_lt (m := 60) (by omega) (by decide)), ?_⟩
        have X11 : SameX (· = md) H10 (upd H10 md (.dK (L2.putK (kvs rs mts) (.inr (Cs n)) (.ref t)))) := (SameX.refl _).mut rfl
        have dK10 : ∀ b o, b = md → H10 b = some o → ∃ kv, o = .dK kv := fun b o e h => by
          rw [e, md10] at h
          cases h
          exact ⟨_, rfl⟩
        refine ⟨_, _, _, _, _, ⟨Cs n, b, tl⟩ :: rs, t :: mts, rfl, ⟨same_mut S10 nmd, St10.keep X11 ned dK10, by rw [upd_same]; exact congrArg (fun z => some (HO.dK z)) (kvs_put sk2), (ml10.put sk2 et T10 etx10).keep X11 dK10, sk2, ned, nd, nmd, na.step hn rfl⟩⟩
      generalize (tSeq (tDrop (tMth "put" (one (He.ga K "Store") (sp_Store_put K)) (fun _ => E) (tVar 4) (tCons (tOp (rIx K) (tVar 3) (tVar 6)) (tCons (tCB (rListOf K) (tCons (tVar 8) (tNil))) (tCons (tVar 9) (tNil)))))) (sDPut (tVar 5) (tOp (rIx K) (tVar 3) (tVar 6)) (tTup (tCons (tVar 10) (tCons (tVar 8) (tNil)))))) = R5 at body5 ⊢
      have enl6 := A.S _ _ enl
      refine dif (fun h => ?_) fun h => ?_
      · have ei : ((i : Int) - 1) = ((i - 1 : Nat) : Int) := by omega
        obtain ⟨n, hn⟩ := nok.at_ (j := i - 1) (by omega)
        have ean := nm_at hn
        walk_at "gn"
        refine dif (fun h2 => ?_) fun h2 => ?_
        · walk_at "gn"
          rw [ei]
          walk_at "gn"
          obtain ⟨p, hp, e⟩ := A.na.has (by omega) hn
          obtain ⟨x, hx⟩ := List.getElem?_of_mem hp
          have pl := A.ml.len
          have xl := (List.getElem?_eq_some_iff.mp hx).1
          have ht : mts[x]? = some (mts[x]'(by omega)) := List.getElem?_eq_getElem (by omega)
          generalize mts[x]'(by omega) = t at ht
          obtain ⟨la, ta, tas, et, T, ex⟩ := A.ml.at_ x t p ht hx
          have dg := dget_pc A.md_ A.sk pl ht hx
          rw [e] at dg
          have tl0 := T.lst
          refine ⟨md, .ref t, rfl, dg, ?_⟩
          walk_at "gn"
          refine ⟨md, .ref t, rfl, dg, ?_⟩
          walk_at "gn"
          rename_i q1 nq1
          have tz : tas.length ≤ 100 := by rw [T.len]; have := upR_len rs p.bs; unfold lrn; rw [List.length_map]; omega
          walk_at "gn"
          rename_i q2 nq2
          have s8 := same_new (u := .lst (tas.map V.ref ++ [.ref ta])) (same_new (u := .lst [.ref ta]) (Same.refl H6) nq1) nq2
          refine body5 (some (Cs n)) q2 (tas ++ [ta]) _ s8 (fun c z => by cases z; exact ⟨p, hp, e⟩) ?_
          rw [← e, lrn_some A.sk hp]
          exact (T.same s8).more (s8 _ _ ex) upd_same
        · walk_at "gn"
          refine dif (fun h3 => ?_) fun h3 => ?_
          · walk_at "gn"
            rw [ei]
            walk_at "gn"
            refine dif (fun h4 => ?_) fun h4 => ?_
            · walk_at "gn"
              refine g_rest (by omega) ?_
              have d0 := Int.emod_nonneg (v5 / 8192) (show (i : Int) ≠ 0 by omega)
              have d1 := Int.emod_lt_of_pos (v5 / 8192) (show (0 : Int) < i by omega)
              obtain ⟨k, hk⟩ : ∃ k : Nat, v5 / 8192 % (i : Int) = (k : Int) := ⟨(v5 / 8192 % (i : Int)).toNat, by omega⟩
              rw [hk] at d1 ⊢
              obtain ⟨n2, hn2⟩ := nok.at_ (j := k) (by omega)
              have ean2 := nm_at hn2
              walk_at "gn"
              obtain ⟨p, hp, e⟩ := A.na.has (by omega) hn2
              obtain ⟨x, hx⟩ := List.getElem?_of_mem hp
              have pl := A.ml.len
              have xl := (List.getElem?_eq_some_iff.mp hx).1
              have ht : mts[x]? = some (mts[x]'(by omega)) := List.getElem?_eq_getElem (by omega)
              generalize mts[x]'(by omega) = t at ht
              obtain ⟨la, ta, tas, et, T, ex⟩ := A.ml.at_ x t p ht hx
              have dg := dget_pc A.md_ A.sk pl ht hx
              rw [e] at dg
              have tl0 := T.lst
              refine ⟨md, .ref t, rfl, dg, ?_⟩
              walk_at "gn"
              refine ⟨md, .ref t, rfl, dg, ?_⟩
              walk_at "gn"
              rename_i q1 nq1
              have tz : tas.length ≤ 100 := by rw [T.len]; have := upR_len rs p.bs; unfold lrn; rw [List.length_map]; omega
              walk_at "gn"
              rename_i q2 nq2
              have s8 := same_new (u := .lst (tas.map V.ref ++ [.ref ta])) (same_new (u := .lst [.ref ta]) (Same.refl H6) nq1) nq2
              refine body5 (some (Cs n2)) q2 (tas ++ [ta]) _ s8 (fun c z => by cases z; exact ⟨p, hp, e⟩) ?_
              rw [← e, lrn_some A.sk hp]
              exact (T.same s8).more (s8 _ _ ex) upd_same
            · walk_at "gn"
              obtain ⟨p, hp, e⟩ := A.na.has (by omega) hn
              obtain ⟨x, hx⟩ := List.getElem?_of_mem hp
              have pl := A.ml.len
              have xl := (List.getElem?_eq_some_iff.mp hx).1
              have ht : mts[x]? = some (mts[x]'(by omega)) := List.getElem?_eq_getElem (by omega)
              generalize mts[x]'(by omega) = t at ht
              obtain ⟨la, ta, tas, et, T, ex⟩ := A.ml.at_ x t p ht hx
              have dg := dget_pc A.md_ A.sk pl ht hx
              rw [e] at dg
              have tl0 := T.lst
              refine ⟨md, .ref t, rfl, dg, ?_⟩
              walk_at "gn"
              refine ⟨md, .ref t, rfl, dg, ?_⟩
              walk_at "gn"
              rename_i q1 nq1
              have tz : tas.length ≤ 100 := by rw [T.len]; have := upR_len rs p.bs; unfold lrn; rw [List.length_map]; omega
              walk_at "gn"
              rename_i q2 nq2
              have s8 := same_new (u := .lst (tas.map V.ref ++ [.ref ta])) (same_new (u := .lst [.ref ta]) (Same.refl H6) nq1) nq2
              refine body5 (some (Cs n)) q2 (tas ++ [ta]) _ s8 (fun c z => by cases z; exact ⟨p, hp, e⟩) ?_
              rw [← e, lrn_some A.sk hp]
              exact (T.same s8).more (s8 _ _ ex) upd_same
          · walk_at "gn"
            exact body5 none le [] H6 (Same.refl _) (fun c z => nomatch z) ⟨ele, by unfold lrn; rw [upR_none]; rfl, fun i a t ha _ => by simp at ha⟩
      · walk_at "gn"
        exact body5 none le [] H6 (Same.refl _) (fun c z => nomatch z) ⟨ele, by unfold lrn; rw [upR_none]; rfl, fun i a t ha _ => by simp at ha⟩
    · rintro σ H5 ⟨u6, u7, u8, u9, u10, rs, mts, rfl, A⟩
      have rl := A.na.len nok (Nat.le_refl _)
      have fin : ∀ H6 u6 u7 u8 u9 u10 u11 u12 u13, At41 K H2 H6 st d md ks names m rs mts → tSeq (tAsg (tOp (rIx K) (tVar 3) (tOp (rMinus) (tVar 2) (tC (.int 1)))) (gName 14)) (tSeq (tAsg (tOp (rIx K) (tLst (tCons (tOp (rIx K) (tVar 3) (tC (.int 0))) (tCons (tC .non) (tNil)))) (tCB (rInt1) (tCons (tOrV (tOp (rSame K) (tVar 2) (tC (.int 1))) (tOp (rNotNo) (tMth "base_of" (one (He.ga K "Store") (sp_Store_base_of K)) (fun _ => E) (tVar 4) (tCons (tVar 14) (tNil))) (tC .non))) (tNil)))) (gName 9)) (tSeq (tAsg (tLst (tNil)) (gName 10)) (tSeq (tIfS (tTest (tOp (rNotNo) (tVar 9) (tC .non))) (tAsg (tOp (rPlus K) (tOp (rIx K) (tDGet (tVar 5) (tVar 9)) (tC (.int 0))) (tLst (tCons (tOp (rIx K) (tDGet (tVar 5) (tVar 9)) (tC (.int 1))) (tNil)))) (gName 10)) (tNext)) (tSeq (tDrop (tMth "drop" (one (He.ga K "Store") (sp_Store_drop K)) (fun _ => E) (tVar 4) (tCons (tVar 14) (tNil)))) (tSeq (tDrop (tMth "put" (one (He.ga K "Store") (sp_Store_put K)) (fun _ => E) (tVar 4) (tCons (tVar 14) (tCons (tLst (tCons (tC (.int 7)) (tNil))) (tCons (tVar 9) (tNil)))))) (tRet (tAndV (tOp (rSame K) (tMth "learned_of" (one (He.ga K "Store") (sp_Store_learned_of K)) (fun _ => E) (tVar 4) (tCons (tVar 14) (tNil))) (tVar 10)) (tOp (rSame K) (tMth "text_of" (one (He.ga K "Store") (sp_Store_text_of K)) (fun _ => E) (tVar 4) (tCons (tVar 14) (tNil))) (tLst (tCons (tC (.int 7)) (tNil))))))))))) ⟨fun _ H' => Q .non H', Q, fun _ _ => False, fun _ _ => False⟩ [some (.ref a), some (.ref l), some (.int m), some (.ref nl), some (.ref st), some (.ref md), u6, u7, u8, u9, u10, u11, u12, u13, none] H6 := by
        clear A
        intro H6 u6 u7 u8 u9 u10 u11 u12 u13 A
        obtain ⟨p0, rs', rfl⟩ : ∃ p0 rs', rs = p0 :: rs' := by
          cases rs with
          | nil => simp at rl; omega
          | cons p r => exact ⟨p, r, rfl⟩
        obtain ⟨n1, hn1⟩ := nok.at_ (j := m - 1) (by omega)
        obtain ⟨n0, hn0⟩ := nok.at_ (j := 0) (by omega)
        have ean1 : atI (nV names) ((m : Int) - 1) = some (.str (Cs n1)) := by rw [show ((m : Int) - 1) = ((m - 1 : Nat) : Int) by omega]; exact nm_at hn1
        have ean0 : atI (nV names) 0 = some (.str (Cs n0)) := nm_at (j := 0) hn0
        obtain ⟨e0, na'⟩ := Named.top (i := m - 1) (by rw [show m - 1 + 1 = m by omega]; exact A.na) hn1
        have enl6 := A.S _ _ enl
        have St6 := A.St
        obtain ⟨sdx, skl, slas, sts, es, _, _, _⟩ := id St6
        have fin2 : ∀ (b : Option Str) (lr : Addr) (las2 : List Addr) H8, Same H6 H8 → Has rs' b → TextsH H8 lr las2 (lrn rs' b) → tSeq (tDrop (tMth "drop" (one (He.ga K "Store") (sp_Store_drop K)) (fun _ => E) (tVar 4) (tCons (tVar 14) (tNil)))) (tSeq (tDrop (tMth "put" (one (He.ga K "Store") (sp_Store_put K)) (fun _ => E) (tVar 4) (tCons (tVar 14) (tCons (tLst (tCons (tC (.int 7)) (tNil))) (tCons (tVar 9) (tNil)))))) (tRet (tAndV (tOp (rSame K) (tMth "learned_of" (one (He.ga K "Store") (sp_Store_learned_of K)) (fun _ => E) (tVar 4) (tCons (tVar 14) (tNil))) (tVar 10)) (tOp (rSame K) (tMth "text_of" (one (He.ga K "Store") (sp_Store_text_of K)) (fun _ => E) (tVar 4) (tCons (tVar 14) (tNil))) (tLst (tCons (tC (.int 7)) (tNil))))))) ⟨fun _ H' => Q .non H', Q, fun _ _ => False, fun _ _ => False⟩ [some (.ref a), some (.ref l), some (.int m), some (.ref nl), some (.ref st), some (.ref md), u6, u7, u8, some (bV b), some (.ref lr), u11, u12, u13, some (.str (Cs n1))] H8 := by
          intro b lr las2 H8 s8 hb T
          have A8 := A.same s8
          obtain ⟨sdx8, skl8, slas8, sts8, es8, _, ed8, _⟩ := id A8.St
          walk_at "gn"
          have bare : Bare (p0 :: rs') p0.nm := fun q hq => A.sk.base_old hq
          refine ⟨st, d, ks, 1000, p0 :: rs', rfl, A8.St, ok, by decide, A.sk, by rw [rl]; omega, .inr ⟨p0, List.mem_cons_self, by rw [e0], fun nb => absurd bare nb, fun _ H9 X9 St9 => ?_⟩⟩
          rw [rmv_top A.sk] at St9
          have kp9 : ∀ {b : Addr} {xs : List V}, H8 b = some (.lst xs) → H9 b = some (.lst xs) := fun {b xs} h => X9.kp _ _ (fun e => by rw [e, ed8] at h; cases h) h
          have T9 : TextsH H9 lr las2 (lrn rs' b) := ⟨kp9 T.lst, T.len, fun j a x ha hx => kp9 (T.at_ j a x ha hx)⟩
          obtain ⟨sdx9, skl9, slas9, sts9, es9, _, ed9, _⟩ := id St9
          clear kp9 X9 T A8 es8 ed8
          walk_at "gn"
          rename_i c7 nc7
          have s10 := same_new (u := .lst (([7] : List Int).map V.int)) (Same.refl H9) nc7
          have e7 : (upd H9 c7 (.lst (([7] : List Int).map V.int))) c7 = some (.lst (([7] : List Int).map V.int)) := upd_same
          have T10 := T9.same s10
          have St10 := St9.same s10
          have ed10 := s10 _ _ ed9
          generalize upd H9 c7 (.lst (([7] : List Int).map V.int)) = H10 at e7 T10 St10 ed10 ⊢
          clear s10 nc7 T9 St9 ed9 es9
          have rl' : rs'.length + 1 = m := rl
          have sk2 : Stk 1000 (⟨Cs n1, b, [7]⟩ :: rs') := .cons A.sk.tail (nok.ok n1 (List.mem_of_getElem? hn1)) (fun q hq => by rw [← e0]; exact A.sk.new q hq) (fun c e => hb c e) (show TextOk 200 [7] from ⟨by decide, by decide⟩) (by show 1 ≤ 1000; decide)
          refine ⟨st, d, ks, 1000, rs', _, rfl, St10.fp, ok, by decide, A.sk.tail, by omega, .inr ⟨Cs n1, c7, [7], b, rfl, rfl, rfl, e7, sk2, by omega, fun H11 _ X11 _ St11F => ?_⟩⟩
          have St11 := St11F.at_
          have kp11 : ∀ {b : Addr} {xs : List V}, H10 b = some (.lst xs) → H11 b = some (.lst xs) := fun {b xs} h => X11.kp _ _ (fun e => by rw [e, ed10] at h; cases h) h
          have T11 : TextsH H11 lr las2 (lrn rs' b) := ⟨kp11 T10.lst, T10.len, fun j a x ha hx => kp11 (T10.at_ j a x ha hx)⟩
          obtain ⟨sdx11, skl11, slas11, sts11, es11, _, ed11, _⟩ := id St11
          have e11 : lrn (⟨Cs n1, b, [7]⟩ :: rs') b = lrn rs' b := by unfold lrn; rw [upR_miss (sk2.base_old List.mem_cons_self)]
          clear kp11 X11 T10 St10 ed10
          walk_at "gn"
          refine ⟨st, d, ks, 1000, _, rfl, St11, ok, by decide, sk2, by rw [List.length_cons]; omega, .inr ⟨⟨Cs n1, b, [7]⟩, List.mem_cons_self, rfl, fun fl fas H12 nfl s12 F _ _ => ?_⟩⟩
          have F : TextsH H12 fl fas (lrn (⟨Cs n1, b, [7]⟩ :: rs') b) := F
          rw [e11] at F
          have es12 := s12 _ _ es11
          walk_at "gn"
          refine g_sameD (b := true) F.dp (T11.same s12).dp okd_ts okd_ts (by decide) (by decide) ⟨fun _ => rfl, fun _ => rfl⟩ ?_
          walk_at "gn"
          refine ⟨st, d, ks, 1000, _, rfl, St11.same s12, ok, by decide, sk2, by rw [List.length_cons]; omega, .inr ⟨⟨Cs n1, b, [7]⟩, List.mem_cons_self, rfl, fun xl H13 nxl s13 ex13 => ?_⟩⟩
          walk_at "gn"
          rename_i y ny
          refine g_sameLI (ns := [7]) (ms := [7]) (sq_of (lk_new ex13 ny)) (sq_of upd_same) ?_
          exact q _
        have rest : ∀ (b : Option Str) H7, Same H6 H7 → Has rs' b → tSeq (tAsg (tLst (tNil)) (gName 10)) (tSeq (tIfS (tTest (tOp (rNotNo) (tVar 9) (tC .non))) (tAsg (tOp (rPlus K) (tOp (rIx K) (tDGet (tVar 5) (tVar 9)) (tC (.int 0))) (tLst (tCons (tOp (rIx K) (tDGet (tVar 5) (tVar 9)) (tC (.int 1))) (tNil)))) (gName 10)) (tNext)) (tSeq (tDrop (tMth "drop" (one (He.ga K "Store") (sp_Store_drop K)) (fun _ => E) (tVar 4) (tCons (tVar 14) (tNil)))) (tSeq (tDrop (tMth "put" (one (He.ga K "Store") (sp_Store_put K)) (fun _ => E) (tVar 4) (tCons (tVar 14) (tCons (tLst (tCons (tC (.int 7)) (tNil))) (tCons (tVar 9) (tNil)))))) (tRet (tAndV (tOp (rSame K) (tMth "learned_of" (one (He.ga K "Store") (sp_Store_learned_of K)) (fun _ => E) (tVar 4) (tCons (tVar 14) (tNil))) (tVar 10)) (tOp (rSame K) (tMth "text_of" (one (He.ga K "Store") (sp_Store_text_of K)) (fun _ => E) (tVar 4) (tCons (tVar 14) (tNil))) (tLst (tCons (tC (.int 7)) (tNil))))))))) ⟨fun _ H' => Q .non H', Q, fun _ _ => False, fun _ _ => False⟩ [some (.ref a), some (.ref l), some (.int m), some (.ref nl), some (.ref st), some (.ref md), u6, u7, u8, some (bV b), u10, u11, u12, u13, some (.str (Cs n1))] H7 := by
          intro b H7 s7 hb
          have A7 := A.same s7
          have fin2 := fun lr las2 H8 h1 h2 => fin2 b lr las2 H8 h1 hb h2
          generalize (tSeq (tDrop (tMth "drop" (one (He.ga K "Store") (sp_Store_drop K)) (fun _ => E) (tVar 4) (tCons (tVar 14) (tNil)))) (tSeq (tDrop (tMth "put" (one (He.ga K "Store") (sp_Store_put K)) (fun _ => E) (tVar 4) (tCons (tVar 14) (tCons (tLst (tCons (tC (.int 7)) (tNil))) (tCons (tVar 9) (tNil)))))) (tRet (tAndV (tOp (rSame K) (tMth "learned_of" (one (He.ga K "Store") (sp_Store_learned_of K)) (fun _ => E) (tVar 4) (tCons (tVar 14) (tNil))) (tVar 10)) (tOp (rSame K) (tMth "text_of" (one (He.ga K "Store") (sp_Store_text_of K)) (fun _ => E) (tVar 4) (tCons (tVar 14) (tNil))) (tLst (tCons (tC (.int 7)) (tNil)))))))) = R12 at fin2 ⊢
          walk_at "gn"
          rename_i le nle
          rcases b with _ | c
          · refine difNY rfl ?_
            walk_at "gn"
            exact fin2 le [] _ (Same.trans s7 (same_new (Same.refl _) nle)) ⟨upd_same, by unfold lrn; rw [upR_none]; rfl, fun i a t ha _ => by simp at ha⟩
          · refine difNX (by intro z; cases z) ?_
            obtain ⟨p, hp, e⟩ := hb c rfl
            have hp' : p ∈ p0 :: rs' := List.mem_cons_of_mem _ hp
            obtain ⟨x, hx⟩ := List.getElem?_of_mem hp'
            have pl := A7.ml.len
            have xl := (List.getElem?_eq_some_iff.mp hx).1
            have ht : mts[x]? = some (mts[x]'(by omega)) := List.getElem?_eq_getElem (by omega)
            generalize mts[x]'(by omega) = t at ht
            obtain ⟨la, ta, tas, et, T, ex⟩ := A7.ml.at_ x t p ht hx
            have dg := dget_pc A7.md_ A7.sk pl ht hx
            rw [e] at dg
            have tl0 := T.lst
            have tz : tas.length ≤ 100 := by
              rw [T.len]
              have := upR_len (p0 :: rs') p.bs
              unfold lrn
              rw [List.length_map]
              omega
            have et8 := lk_new (u := .lst []) et nle
            have tl8 := lk_new (u := .lst []) tl0 nle
            have dg8 : DGet (upd H7 le (.lst [])) md (.str c) (some (.ref t)) := by
              have := dget_pc (lk_new (u := .lst []) A7.md_ nle) A7.sk pl ht hx
              rw [e] at this
              exact this
            have s8 := same_new (u := .lst []) (Same.refl H7) nle
            have ex8 := s8 _ _ ex
            generalize upd H7 le (.lst []) = H8 at et8 tl8 dg8 s8 ex8 ⊢
            walk_at "gn"
            refine ⟨md, .ref t, rfl, dg8, ?_⟩
            walk_at "gn"
            refine ⟨md, .ref t, rfl, dg8, ?_⟩
            walk_at "gn"
            rename_i q1 nq1 q2 nq2
            have s9 := same_new (u := .lst (tas.map V.ref ++ [.ref ta])) (same_new (u := .lst [.ref ta]) s8 nq1) nq2
            refine fin2 q2 (tas ++ [ta]) _ (Same.trans s7 s9) ?_
            rw [← e, lrn_some A7.sk.tail hp]
            have T9 := (T.same s9).more (s9 _ _ ex) upd_same (l := q2)
            unfold lrn at T9
            rw [upR_miss (A7.sk.base_old hp')] at T9
            exact T9
        generalize (tSeq (tAsg (tLst (tNil)) (gName 10)) (tSeq (tIfS (tTest (tOp (rNotNo) (tVar 9) (tC .non))) (tAsg (tOp (rPlus K) (tOp (rIx K) (tDGet (tVar 5) (tVar 9)) (tC (.int 0))) (tLst (tCons (tOp (rIx K) (tDGet (tVar 5) (tVar 9)) (tC (.int 1))) (tNil)))) (gName 10)) (tNext)) (tSeq (tDrop (tMth "drop" (one (He.ga K "Store") (sp_Store_drop K)) (fun _ => E) (tVar 4) (tCons (tVar 14) (tNil)))) (tSeq (tDrop (tMth "put" (one (He.ga K "Store") (sp_Store_put K)) (fun _ => E) (tVar 4) (tCons (tVar 14) (tCons (tLst (tCons (tC (.int 7)) (tNil))) (tCons (tVar 9) (tNil)))))) (tRet (tAndV (tOp (rSame K) (tMth "learned_of" (one (He.ga K "Store") (sp_Store_learned_of K)) (fun _ => E) (tVar 4) (tCons (tVar 14) (tNil))) (tVar 10)) (tOp (rSame K) (tMth "text_of" (one (He.ga K "Store") (sp_Store_text_of K)) (fun _ => E) (tVar 4) (tCons (tVar 14) (tNil))) (tLst (tCons (tC (.int 7)) (tNil)))))))))) = R10 at rest ⊢
        walk_at "gn"
        rename_i q1 nq1
        have s7 := same_new (u := .lst [.str (Cs n0), .non]) (Same.refl H6) nq1
        have e7 : (upd H6 q1 (.lst [.str (Cs n0), .non])) q1 = some (.lst [.str (Cs n0), .non]) := upd_same
        have es7 := s7 _ _ es
        have St7 := St6.same s7
        generalize upd H6 q1 (.lst [.str (Cs n0), .non]) = H7 at s7 e7 es7 St7 ⊢
        clear nq1
        refine dif (fun h1 => ?_) fun h1 => ?_
        · walk_at "gn"
          exact rest none H7 s7 fun c z => nomatch z
        · walk_at "gn"
          refine ⟨st, d, ks, 1000, p0 :: rs', rfl, St7, ok, by decide, A.sk, by rw [rl]; omega, .inr ⟨p0, List.mem_cons_self, by rw [e0], ?_⟩⟩
          walk_at "gn"
          cases hpb : p0.bs with
          | none =>
            rw [show (!decide (bV none = V.non)) = false from rfl]
            walk_at "gn"
            refine g_ixL (v := .str (Cs n0)) (sq_of e7) rfl ?_
            walk_at "gn"
            exact rest (some (Cs n0)) H7 s7 fun c z => by
              cases z
              exact na'.has (by omega) hn0
          | some c =>
            rw [show (!decide (bV (some c) = V.non)) = true from by rw [decide_eq_false (by intro z; cases z)]; rfl]
            walk_at "gn"
            exact rest none H7 s7 fun c z => nomatch z
      subst hR
      generalize (tSeq (tAsg (tOp (rIx K) (tVar 3) (tOp (rMinus) (tVar 2) (tC (.int 1)))) (gName 14)) (tSeq (tAsg (tOp (rIx K) (tLst (tCons (tOp (rIx K) (tVar 3) (tC (.int 0))) (tCons (tC .non) (tNil)))) (tCB (rInt1) (tCons (tOrV (tOp (rSame K) (tVar 2) (tC (.int 1))) (tOp (rNotNo) (tMth "base_of" (one (He.ga K "Store") (sp_Store_base_of K)) (fun _ => E) (tVar 4) (tCons (tVar 14) (tNil))) (tC .non))) (tNil)))) (gName 9)) (tSeq (tAsg (tLst (tNil)) (gName 10)) (tSeq (tIfS (tTest (tOp (rNotNo) (tVar 9) (tC .non))) (tAsg (tOp (rPlus K) (tOp (rIx K) (tDGet (tVar 5) (tVar 9)) (tC (.int 0))) (tLst (tCons (tOp (rIx K) (tDGet (tVar 5) (tVar 9)) (tC (.int 1))) (tNil)))) (gName 10)) (tNext)) (tSeq (tDrop (tMth "drop" (one (He.ga K "Store") (sp_Store_drop K)) (fun _ => E) (tVar 4) (tCons (tVar 14) (tNil)))) (tSeq (tDrop (tMth "put" (one (He.ga K "Store") (sp_Store_put K)) (fun _ => E) (tVar 4) (tCons (tVar 14) (tCons (tLst (tCons (tC (.int 7)) (tNil))) (tCons (tVar 9) (tNil)))))) (tRet (tAndV (tOp (rSame K) (tMth "learned_of" (one (He.ga K "Store") (sp_Store_learned_of K)) (fun _ => E) (tVar 4) (tCons (tVar 14) (tNil))) (tVar 10)) (tOp (rSame K) (tMth "text_of" (one (He.ga K "Store") (sp_Store_text_of K)) (fun _ => E) (tVar 4) (tCons (tVar 14) (tNil))) (tLst (tCons (tC (.int 7)) (tNil)))))))))))) = R at fin ⊢
      walk_at "gn"
      refine for_R1 (k := 2) rfl (by decide) (fun i σ H6 => ∃ u6 u7 u8 u9 u10 u11 u12 u13, σ = [some (.ref a), some (.ref l), some (.int m), some (.ref nl), some (.ref st), some (.ref md), u6, u7, u8, u9, u10, u11, u12, u13, none] ∧ At41 K H2 H6 st d md ks names m rs mts) ?_ ?_ ?_
      · exact ⟨_, _, _, _, _, _, _, _, rfl, A⟩
      · clear A u6 u7 u8 u9 u10 A0
        rintro i σ H6 hi ⟨u6, u7, u8, u9, u10, u11, u12, u13, rfl, A⟩
        walk_at "gn"
        have md6 := A.md_
        refine g_lock md6 fun od => ?_
        have dK6 : ∀ b o, b = md → H6 b = some o → ∃ kv, o = .dK kv := fun b o e h => by
          rw [e, md6] at h
          cases h
          exact ⟨_, rfl⟩
        have St7 := A.St.keep (same_lock (o := od) (u := .dK (kvs rs mts))) A.ne dK6
        have ml7 := A.ml.keep (same_lock (o := od) (u := .dK (kvs rs mts))) dK6
        have ez7 : (upd H6 md (.frz od (.dK (kvs rs mts)))) md = some (.frz od (.dK (kvs rs mts))) := upd_same
        have back : ∀ H8, Same (upd H6 md (.frz od (.dK (kvs rs mts)))) H8 → At41 K H2 (upd H8 md (.dK (kvs rs mts))) st d md ks names m rs mts := fun H8 s => A.same (same_unlock md6 s)
        generalize upd H6 md (.frz od (.dK (kvs rs mts))) = H7 at St7 ml7 ez7 back ⊢
        refine g_forK ?_
        walk_at "gn"
        refine for_K (o := od) (kv := kvs rs mts) (fun j σ H8 => ∃ u8 u12 u13, σ = [some (.ref a), some (.ref l), some (.int m), some (.ref nl), some (.ref st), some (.ref md), u6, u7, u8, u9, u10, some (.int (i : Int)), u12, u13, none] ∧ Same H7 H8) ⟨_, _, _, rfl, Same.refl _⟩ ?_ ?_ ?_
        · rintro j σ H8 ⟨u8, u12, u13, rfl, s⟩
          exact s _ _ ez7
        · rintro j k w σ H8 hk ⟨u8, u12, u13, rfl, s⟩
          obtain ⟨p, t, x, rfl, rfl, hp, ht⟩ := kvs_get hk
          have St8 := St7.same s
          have ml8 := ml7.same s
          have ez8 := s _ _ ez7
          obtain ⟨sdx, skl, slas, sts, es, _, _, _⟩ := id St8
          obtain ⟨la, ta, tas, et, T, ex⟩ := ml8.at_ x t p ht hp
          show asgn 12 _ (.str p.nm) _ _
          walk_at "gn"
          refine ⟨st, d, ks, 1000, rs, rfl, St8, ok, by decide, A.sk, by omega, .inr ⟨p, List.mem_of_getElem? hp, rfl, fun fl fas H9 nfl s9 F nf nfd => ?_⟩⟩
          have nfl7 : H7 fl = none := s.free nfl
          have nf7 : ∀ t ∈ fas, H7 t = none ∧ t ≠ fl := fun t ht => ⟨s.free (nf t ht).1, (nf t ht).2⟩
          have S9 := Same.trans s s9
          have T9 := T.same s9
          have et9 := s9 _ _ et
          have ez9 := s9 _ _ ez8
          have fl9 := F.lst
          clear nf nfl St8 ml8 T et ez8 s9 s
          walk_at "gn"
          refine g_isi (s := "") (tn := "list") (.base (.lst fl9)) (b := true) (by decide +kernel) ?_
          walk_at "gn"
          have vv := kvs_at A.sk ml7.len x t p ht hp
          have dg : DGet H9 md (.str p.nm) (some (.ref t)) := by
            have := DGet.f (k := .inr p.nm) ez9
            rw [vv] at this
            exact this
          refine ⟨md, .ref t, rfl, dg, ?_⟩
          walk_at "gn"
          refine g_diffD (b := true) F.dp T9.dp okd_ts okd_ts (by decide) (by decide) ⟨fun _ => rfl, fun _ => rfl⟩ ?_
          have fln : fas.length ≤ 60 := by
            have := upR_len rs p.bs
            rw [F.len]
            unfold lrn
            rw [List.length_map]
            omega
          have ft9 : ∀ t ∈ fas, ∃ xs, H9 t = some (.lst xs) ∧ xs.length ≤ 1000 := fun t ht => by
            obtain ⟨y, hy⟩ := List.getElem?_of_mem ht
            have yl := (List.getElem?_eq_some_iff.mp hy).1
            have hz : (lrn rs p.bs)[y]? = some ((lrn rs p.bs)[y]'(by rw [← F.len]; exact yl)) := List.getElem?_eq_getElem _
            refine ⟨_, F.at_ y t _ hy hz, ?_⟩
            rw [List.length_map]
            have := ((A.sk.lrn p.bs).1 _ (List.mem_of_getElem? hz)).2
            omega
          clear F nfd T9 et9 vv dg es ex ez9
          walk_at "gn"
          refine for_L (sq_of fl9) (fun i2 σ H10 => ∃ u8, σ = [some (.ref a), some (.ref l), some (.int m), some (.ref nl), some (.ref st), some (.ref md), u6, u7, u8, u9, u10, some (.int (i : Int)), some (.str p.nm), some (.ref fl), none] ∧ Same H7 H10 ∧ H10 fl = some (.lst (fas.map V.ref)) ∧ i2 ≤ 60 ∧ ∀ t ∈ fas, ∃ xs, H10 t = some (.lst xs) ∧ xs.length ≤ 1000 + i2) ⟨_, rfl, S9, fl9, by decide, ft9⟩ ?_ ?_ ?_
          · rintro i2 σ H10 ⟨u8, rfl, -, e, -⟩
            exact sq_of e
          · rintro i2 v2 σ H10 hv2 ⟨u8, rfl, S, efl, i60, ft⟩
            obtain ⟨t2, ht2, rfl⟩ := map_at hv2
            have il := (List.getElem?_eq_some_iff.mp ht2).1
            have m2 := List.mem_of_getElem? ht2
            obtain ⟨xs, ex2, lx⟩ := ft t2 m2
            walk_at "gn"
            refine ⟨_, rfl, same_mut S (nf7 t2 m2).1, lk_mut (fun e => (nf7 t2 m2).2 e.symm) efl, by omega, fun t3 ht3 => ?_⟩
            by_cases e : t3 = t2
            · rw [e, upd_same]
              exact ⟨_, rfl, by rw [List.length_append, List.length_singleton]; omega⟩
            · obtain ⟨ys, ey, ly⟩ := ft t3 ht3
              exact ⟨ys, by rw [upd_ne e]; exact ey, by omega⟩
          · rintro σ H10 ⟨u8, rfl, S, efl, i60, ft⟩
            walk_at "gn"
            rename_i q1 nq1
            walk_at "gn"
            exact ⟨_, _, _, rfl, same_mut (same_new S nq1) nfl7⟩
        · rintro σ H8 ⟨u8, u12, u13, rfl, s⟩
          exact ⟨s _ _ ez7, _, _, _, _, _, _, _, _, rfl, back H8 s⟩
      · rintro σ H6 ⟨u6, u7, u8, u9, u10, u11, u12, u13, rfl, A⟩
        exact fin H6 _ _ _ _ _ _ _ _ A
  generalize (tSeq (tAsg (tFun (sp_Lnames K) [] (fun _ => E) (tCons (tFun (sp_Lmixed K) [] (fun _ => E) (tCons (tVar 0) (tCons (tC (.int 1)) (tNil)))) (tCons (tVar 2) (tNil)))) (gName 3)) (tSeq (tAsg (tNew (He.ga K "Store") (sp_Store_init K) [.int 1000] (fun _ => E) (tCons (tVar 1) (tNil))) (gName 4)) (tSeq (tAsg (tDNewK) (gName 5)) (tSeq (tFor (iRng1 (tCons (tVar 2) (tNil))) (gName 6) (tSeq (tAsg (tFun (sp_Lmixed K) [] (fun _ => E) (tCons (tVar 0) (tCons (tOp (rPlus K) (tC (.int 2)) (tVar 6)) (tNil)))) (gName 7)) (tSeq (tAsg (tOp (rTimes) (tLst (tCons (tOp (rRest) (tVar 7) (tC (.int 256))) (tNil))) (tOp (rRest) (tOp (rFloor) (tVar 7) (tC (.int 256))) (tC (.int 2)))) (gName 8)) (tSeq (tAsg (tC .non) (gName 9)) (tSeq (tAsg (tLst (tNil)) (gName 10)) (tSeq (tIfS (tAnd (tTest (tOp (iGt) (tVar 6) (tC (.int 0)))) (tOr (tTest (tOp (rSame K) (tVar 2) (tC (.int 9)))) (tTest (tOp (iGt) (tOp (rRest) (tOp (rFloor) (tVar 7) (tC (.int 1024))) (tC (.int 5))) (tC (.int 0)))))) (tSeq (tAsg (tOp (rIx K) (tVar 3) (tOp (rMinus) (tVar 6) (tC (.int 1)))) (gName 9)) (tSeq (tIfS (tAnd (tTest (tOp (iLt) (tVar 2) (tC (.int 9)))) (tTest (tOp (iGt) (tOp (rRest) (tOp (rFloor) (tVar 7) (tC (.int 1024))) (tC (.int 5))) (tC (.int 2))))) (tAsg (tOp (rIx K) (tVar 3) (tOp (rRest) (tOp (rFloor) (tVar 7) (tC (.int 8192))) (tVar 6))) (gName 9)) (tNext)) (tAsg (tOp (rPlus K) (tOp (rIx K) (tDGet (tVar 5) (tVar 9)) (tC (.int 0))) (tLst (tCons (tOp (rIx K) (tDGet (tVar 5) (tVar 9)) (tC (.int 1))) (tNil)))) (gName 10)))) (tNext)) (tSeq (tDrop (tMth "put" (one (He.ga K "Store") (sp_Store_put K)) (fun _ => E) (tVar 4) (tCons (tOp (rIx K) (tVar 3) (tVar 6)) (tCons (tCB (rListOf K) (tCons (tVar 8) (tNil))) (tCons (tVar 9) (tNil)))))) (sDPut (tVar 5) (tOp (rIx K) (tVar 3) (tVar 6)) (tTup (tCons (tVar 10) (tCons (tVar 8) (tNil)))))))))))) (tSeq (tFor (iRng1 (tCons (tC (.int 2)) (tNil))) (gName 11) (tLock (tFor (iKeys (tVar 5)) (gName 12) (tSeq (tAsg (tMth "learned_of" (one (He.ga K "Store") (sp_Store_learned_of K)) (fun _ => E) (tVar 4) (tCons (tVar 12) (tNil))) (gName 13)) (tSeq (tIfS (tOr (tNot (tTru K (tCB (rIsi2 K) (tCons (tVar 13) (tCons (tC (.ty "list")) (tNil)))))) (tTest (tOp (rDiff K) (tVar 13) (tOp (rIx K) (tDGet (tVar 5) (tVar 12)) (tC (.int 0)))))) (tRet (tC (.bl false))) (tNext)) (tSeq (tFor (iList K (tVar 13)) (gName 8) (tDrop (tBM K "list" (rAppend) (tVar 8) (tCons (tC (.int 1)) (tNil))))) (tDrop (tBM K "list" (rAppend) (tVar 13) (tCons (tLst (tCons (tC (.int 2)) (tNil))) (tNil)))))))))) (tSeq (tAsg (tOp (rIx K) (tVar 3) (tOp (rMinus) (tVar 2) (tC (.int 1)))) (gName 14)) (tSeq (tAsg (tOp (rIx K) (tLst (tCons (tOp (rIx K) (tVar 3) (tC (.int 0))) (tCons (tC .non) (tNil)))) (tCB (rInt1) (tCons (tOrV (tOp (rSame K) (tVar 2) (tC (.int 1))) (tOp (rNotNo) (tMth "base_of" (one (He.ga K "Store") (sp_Store_base_of K)) (fun _ => E) (tVar 4) (tCons (tVar 14) (tNil))) (tC .non))) (tNil)))) (gName 9)) (tSeq (tAsg (tLst (tNil)) (gName 10)) (tSeq (tIfS (tTest (tOp (rNotNo) (tVar 9) (tC .non))) (tAsg (tOp (rPlus K) (tOp (rIx K) (tDGet (tVar 5) (tVar 9)) (tC (.int 0))) (tLst (tCons (tOp (rIx K) (tDGet (tVar 5) (tVar 9)) (tC (.int 1))) (tNil)))) (gName 10)) (tNext)) (tSeq (tDrop (tMth "drop" (one (He.ga K "Store") (sp_Store_drop K)) (fun _ => E) (tVar 4) (tCons (tVar 14) (tNil)))) (tSeq (tDrop (tMth "put" (one (He.ga K "Store") (sp_Store_put K)) (fun _ => E) (tVar 4) (tCons (tVar 14) (tCons (tLst (tCons (tC (.int 7)) (tNil))) (tCons (tVar 9) (tNil)))))) (tRet (tAndV (tOp (rSame K) (tMth "learned_of" (one (He.ga K "Store") (sp_Store_learned_of K)) (fun _ => E) (tVar 4) (tCons (tVar 14) (tNil))) (tVar 10)) (tOp (rSame K) (tMth "text_of" (one (He.ga K "Store") (sp_Store_text_of K)) (fun _ => E) (tVar 4) (tCons (tVar 14) (tNil))) (tLst (tCons (tC (.int 7)) (tNil))))))))))))))))) = R at main ⊢
  walk_at "gn"
  refine dif (fun h => ?_) fun h => ?_
  · walk_at "gn"
    exact main 9 (by decide) (by decide)
  · walk_at "gn"
    have := main (1 + v2 % 5).toNat (by omega) (by omega)
    rw [show (((1 + v2 % 5).toNat : Nat) : Int) = 1 + v2 % 5 by omega] at this
    exact this
theorem law_here (K : PySem.W.Frag) (H : Hp) (a : Addr) (ns : List Int) (hl : ns.length ≤ 63) (hS : SqL K H a (ns.map V.int)) : sp_law K [.ref a] H (fun v _ => v = .bl true) fun _ _ _ => False :=
  ⟨.ref a, rfl, a, ns, rfl, hS, hl, fun _ => rfl⟩
end
end Fo
namespace Fo
open PySem PySem.Spec PyProof.Rows L2
section
variable {P : Program} {w : World} {K : PySem.W.Frag} {mg : Str → Option Value} {base h : Heap}
theorem cb_is_whole (KX : K.In h) (G : h.Ns mainGlobals mg) (c : SaysX fa fn xf K) : Cb P w K mg base 1 (He.fAd K ("is_whole", none)) ["thing"] [] (sp_is_whole K) :=
  cb_of (T := t_is_whole K) (c.def_ 0 rfl) sc_is_whole (fun vs H Q E h => by
    obtain ⟨_, rfl, _⟩ := h
    rfl) (fun _ _ _ _ _ _ us hl => match us, hl with | [_], _ => rfl)
   (fun cdv A outer s H E hr => by
    have nd := sc_is_whole.nd
    have ho := out_def (cxD_takes (P := P) (w := w) (K := K) (mg := mg) (base := base) (N := N_is_whole) (qual := "is_whole") (st := s_is_whole) (f := He.fAd K ("is_whole", none)) (cdv := cdv) (A := A) (outer := outer) (s := s) (H := H) (E := E))
    have tk := cxD_takes (P := P) (w := w) (K := K) (mg := mg) (base := base) (N := N_is_whole) (qual := "is_whole") (st := s_is_whole) (f := He.fAd K ("is_whole", none)) (cdv := cdv) (A := A) (outer := outer) (s := s) (H := H) (E := E)
    have pz := cxD_passes (P := P) (w := w) (K := K) (mg := mg) (base := base) (N := N_is_whole) (qual := "is_whole") (st := s_is_whole) (f := He.fAd K ("is_whole", none)) (cdv := cdv) (A := A) (outer := outer) (s := s) (H := H) (E := E)
    exact pss_one (ps_ret (pe_and (pe_callB c_isi (by rfl) (He.free_ok KX G (c.fact 34 rfl)) (by decide +kernel) (pa_cons (pv 0) (pa_cons (pe_gty (He.free_ok KX G (c.fact 35 rfl)) (by decide +kernel)) (pa_nil)))) (pe_one (pe_not (pe_callB c_isi (by rfl) (He.free_ok KX G (c.fact 34 rfl)) (by decide +kernel) (pa_cons (pv 0) (pa_cons (pe_gty (He.free_ok KX G (c.fact 36 rfl)) (by decide +kernel)) (pa_nil)))))))))
   (fun vs H Q E h => by
    obtain ⟨_, rfl, h⟩ := h
    haveI : HasCls K "Slot" := ⟨He.cls_ok (c.fact 0 rfl)⟩
    haveI : HasCls K "Even" := ⟨He.cls_ok (c.fact 1 rfl)⟩
    haveI : HasNo K "Even" "noughts" := ⟨He.noat_ok (c.fact 2 rfl)⟩
    haveI : HasNo K "Even" "ones" := ⟨He.noat_ok (c.fact 3 rfl)⟩
    haveI : HasCls K "Quick" := ⟨He.cls_ok (c.fact 4 rfl)⟩
    haveI : HasNo K "Quick" "held" := ⟨He.noat_ok (c.fact 5 rfl)⟩
    haveI : HasCls K "Run" := ⟨He.cls_ok (c.fact 6 rfl)⟩
    haveI : HasNo K "Run" "last" := ⟨He.noat_ok (c.fact 7 rfl)⟩
    haveI : HasNo K "Run" "length" := ⟨He.noat_ok (c.fact 8 rfl)⟩
    haveI : HasCls K "Book" := ⟨He.cls_ok (c.fact 9 rfl)⟩
    haveI : HasNo K "Book" "look" := ⟨He.noat_ok (c.fact 10 rfl)⟩
    haveI : HasNo K "Book" "slots" := ⟨He.noat_ok (c.fact 11 rfl)⟩
    haveI : HasCls K "Mixer" := ⟨He.cls_ok (c.fact 12 rfl)⟩
    haveI : HasNo K "Mixer" "shares" := ⟨He.noat_ok (c.fact 13 rfl)⟩
    haveI : HasCls K "Foreteller" := ⟨He.cls_ok (c.fact 14 rfl)⟩
    haveI : HasNo K "Foreteller" "kinds" := ⟨He.noat_ok (c.fact 15 rfl)⟩
    haveI : HasNo K "Foreteller" "books" := ⟨He.noat_ok (c.fact 16 rfl)⟩
    haveI : HasNo K "Foreteller" "mixer" := ⟨He.noat_ok (c.fact 17 rfl)⟩
    haveI : HasNo K "Foreteller" "ended" := ⟨He.noat_ok (c.fact 18 rfl)⟩
    haveI : HasNo K "Foreteller" "place" := ⟨He.noat_ok (c.fact 19 rfl)⟩
    haveI : HasNo K "Foreteller" "past" := ⟨He.noat_ok (c.fact 20 rfl)⟩
    haveI : HasCls K "Span" := ⟨He.cls_ok (c.fact 21 rfl)⟩
    haveI : HasNo K "Span" "low" := ⟨He.noat_ok (c.fact 22 rfl)⟩
    haveI : HasNo K "Span" "width" := ⟨He.noat_ok (c.fact 23 rfl)⟩
    haveI : HasNo K "Span" "size" := ⟨He.noat_ok (c.fact 24 rfl)⟩
    haveI : HasCls K "Seeker" := ⟨He.cls_ok (c.fact 25 rfl)⟩
    haveI : HasNo K "Seeker" "row" := ⟨He.noat_ok (c.fact 26 rfl)⟩
    haveI : HasNo K "Seeker" "span" := ⟨He.noat_ok (c.fact 27 rfl)⟩
    haveI : HasNo K "Seeker" "number" := ⟨He.noat_ok (c.fact 28 rfl)⟩
    haveI : HasNo K "Seeker" "taken" := ⟨He.noat_ok (c.fact 29 rfl)⟩
    haveI : HasCls K "Store" := ⟨He.cls_ok (c.fact 30 rfl)⟩
    haveI : HasNo K "Store" "kinds" := ⟨He.noat_ok (c.fact 31 rfl)⟩
    haveI : HasNo K "Store" "longest" := ⟨He.noat_ok (c.fact 32 rfl)⟩
    haveI : HasNo K "Store" "pieces" := ⟨He.noat_ok (c.fact 33 rfl)⟩
    haveI : HasTup K "KINDS" [.str "even", .str "quick", .str "run"] := tup_ok (c.ext 0 rfl)
    exact pure_is_whole K h)
theorem cb_Even_init (KX : K.In h) (G : h.Ns mainGlobals mg) (c : SaysX fa fn xf K) : Cb P w K mg base 1 (He.fAd K ("Even", some "__init__")) ["self"] [] (sp_Even_init K) :=
  cb_of (T := t_Even_init K) (c.def_ 11 rfl) sc_Even_init (fun vs H Q E h => by
    obtain ⟨_, rfl, _⟩ := h
    rfl) (fun _ _ _ _ _ _ us hl => match us, hl with | [_], _ => rfl)
   (fun cdv A outer s H E hr => by
    have nd := sc_Even_init.nd
    have ho := out_def (cxD_takes (P := P) (w := w) (K := K) (mg := mg) (base := base) (N := N_Even_init) (qual := "Even.__init__") (st := s_Even_init) (f := He.fAd K ("Even", some "__init__")) (cdv := cdv) (A := A) (outer := outer) (s := s) (H := H) (E := E))
    have tk := cxD_takes (P := P) (w := w) (K := K) (mg := mg) (base := base) (N := N_Even_init) (qual := "Even.__init__") (st := s_Even_init) (f := He.fAd K ("Even", some "__init__")) (cdv := cdv) (A := A) (outer := outer) (s := s) (H := H) (E := E)
    have pz := cxD_passes (P := P) (w := w) (K := K) (mg := mg) (base := base) (N := N_Even_init) (qual := "Even.__init__") (st := s_Even_init) (f := He.fAd K ("Even", some "__init__")) (cdv := cdv) (A := A) (outer := outer) (s := s) (H := H) (E := E)
    exact pss_cons (ps_fld (pv 0) (pe_int) rfl)
       (pss_one (ps_fld (pv 0) (pe_int) rfl)))
   (fun vs H Q E h => by
    obtain ⟨_, rfl, h⟩ := h
    haveI : HasCls K "Slot" := ⟨He.cls_ok (c.fact 0 rfl)⟩
    haveI : HasCls K "Even" := ⟨He.cls_ok (c.fact 1 rfl)⟩
    haveI : HasNo K "Even" "noughts" := ⟨He.noat_ok (c.fact 2 rfl)⟩
    haveI : HasNo K "Even" "ones" := ⟨He.noat_ok (c.fact 3 rfl)⟩
    haveI : HasCls K "Quick" := ⟨He.cls_ok (c.fact 4 rfl)⟩
    haveI : HasNo K "Quick" "held" := ⟨He.noat_ok (c.fact 5 rfl)⟩
    haveI : HasCls K "Run" := ⟨He.cls_ok (c.fact 6 rfl)⟩
    haveI : HasNo K "Run" "last" := ⟨He.noat_ok (c.fact 7 rfl)⟩
    haveI : HasNo K "Run" "length" := ⟨He.noat_ok (c.fact 8 rfl)⟩
    haveI : HasCls K "Book" := ⟨He.cls_ok (c.fact 9 rfl)⟩
    haveI : HasNo K "Book" "look" := ⟨He.noat_ok (c.fact 10 rfl)⟩
    haveI : HasNo K "Book" "slots" := ⟨He.noat_ok (c.fact 11 rfl)⟩
    haveI : HasCls K "Mixer" := ⟨He.cls_ok (c.fact 12 rfl)⟩
    haveI : HasNo K "Mixer" "shares" := ⟨He.noat_ok (c.fact 13 rfl)⟩
    haveI : HasCls K "Foreteller" := ⟨He.cls_ok (c.fact 14 rfl)⟩
    haveI : HasNo K "Foreteller" "kinds" := ⟨He.noat_ok (c.fact 15 rfl)⟩
    haveI : HasNo K "Foreteller" "books" := ⟨He.noat_ok (c.fact 16 rfl)⟩
    haveI : HasNo K "Foreteller" "mixer" := ⟨He.noat_ok (c.fact 17 rfl)⟩
    haveI : HasNo K "Foreteller" "ended" := ⟨He.noat_ok (c.fact 18 rfl)⟩
    haveI : HasNo K "Foreteller" "place" := ⟨He.noat_ok (c.fact 19 rfl)⟩
    haveI : HasNo K "Foreteller" "past" := ⟨He.noat_ok (c.fact 20 rfl)⟩
    haveI : HasCls K "Span" := ⟨He.cls_ok (c.fact 21 rfl)⟩
    haveI : HasNo K "Span" "low" := ⟨He.noat_ok (c.fact 22 rfl)⟩
    haveI : HasNo K "Span" "width" := ⟨He.noat_ok (c.fact 23 rfl)⟩
    haveI : HasNo K "Span" "size" := ⟨He.noat_ok (c.fact 24 rfl)⟩
    haveI : HasCls K "Seeker" := ⟨He.cls_ok (c.fact 25 rfl)⟩
    haveI : HasNo K "Seeker" "row" := ⟨He.noat_ok (c.fact 26 rfl)⟩
    haveI : HasNo K "Seeker" "span" := ⟨He.noat_ok (c.fact 27 rfl)⟩
    haveI : HasNo K "Seeker" "number" := ⟨He.noat_ok (c.fact 28 rfl)⟩
    haveI : HasNo K "Seeker" "taken" := ⟨He.noat_ok (c.fact 29 rfl)⟩
    haveI : HasCls K "Store" := ⟨He.cls_ok (c.fact 30 rfl)⟩
    haveI : HasNo K "Store" "kinds" := ⟨He.noat_ok (c.fact 31 rfl)⟩
    haveI : HasNo K "Store" "longest" := ⟨He.noat_ok (c.fact 32 rfl)⟩
    haveI : HasNo K "Store" "pieces" := ⟨He.noat_ok (c.fact 33 rfl)⟩
    haveI : HasTup K "KINDS" [.str "even", .str "quick", .str "run"] := tup_ok (c.ext 0 rfl)
    exact pure_Even_init K h)
theorem cb_Even_chance (KX : K.In h) (G : h.Ns mainGlobals mg) (c : SaysX fa fn xf K) : Cb P w K mg base 1 (He.fAd K ("Even", some "chance")) ["self"] [] (sp_Even_chance K) :=
  cb_of (T := t_Even_chance K) (c.def_ 12 rfl) sc_Even_chance (fun vs H Q E h => by
    obtain ⟨_, rfl, _⟩ := h
    rfl) (fun _ _ _ _ _ _ us hl => match us, hl with | [_], _ => rfl)
   (fun cdv A outer s H E hr => by
    have nd := sc_Even_chance.nd
    have ho := out_def (cxD_takes (P := P) (w := w) (K := K) (mg := mg) (base := base) (N := N_Even_chance) (qual := "Even.chance") (st := s_Even_chance) (f := He.fAd K ("Even", some "chance")) (cdv := cdv) (A := A) (outer := outer) (s := s) (H := H) (E := E))
    have tk := cxD_takes (P := P) (w := w) (K := K) (mg := mg) (base := base) (N := N_Even_chance) (qual := "Even.chance") (st := s_Even_chance) (f := He.fAd K ("Even", some "chance")) (cdv := cdv) (A := A) (outer := outer) (s := s) (H := H) (E := E)
    have pz := cxD_passes (P := P) (w := w) (K := K) (mg := mg) (base := base) (N := N_Even_chance) (qual := "Even.chance") (st := s_Even_chance) (f := He.fAd K ("Even", some "chance")) (cdv := cdv) (A := A) (outer := outer) (s := s) (H := H) (E := E)
    exact pss_one (ps_ret (pe_op o_floor (pe_op o_times (pe_op o_plus (pe_op o_times (pe_int) (pe_fld (pv 0) rfl)) (pe_int)) (pe_gint (He.int_ok KX G (c.fact 37 rfl)))) (pe_op o_plus (pe_op o_times (pe_int) (pe_op o_plus (pe_fld (pv 0) rfl) (pe_fld (pv 0) rfl))) (pe_int)))))
   (fun vs H Q E h => by
    obtain ⟨_, rfl, h⟩ := h
    haveI : HasCls K "Slot" := ⟨He.cls_ok (c.fact 0 rfl)⟩
    haveI : HasCls K "Even" := ⟨He.cls_ok (c.fact 1 rfl)⟩
    haveI : HasNo K "Even" "noughts" := ⟨He.noat_ok (c.fact 2 rfl)⟩
    haveI : HasNo K "Even" "ones" := ⟨He.noat_ok (c.fact 3 rfl)⟩
    haveI : HasCls K "Quick" := ⟨He.cls_ok (c.fact 4 rfl)⟩
    haveI : HasNo K "Quick" "held" := ⟨He.noat_ok (c.fact 5 rfl)⟩
    haveI : HasCls K "Run" := ⟨He.cls_ok (c.fact 6 rfl)⟩
    haveI : HasNo K "Run" "last" := ⟨He.noat_ok (c.fact 7 rfl)⟩
    haveI : HasNo K "Run" "length" := ⟨He.noat_ok (c.fact 8 rfl)⟩
    haveI : HasCls K "Book" := ⟨He.cls_ok (c.fact 9 rfl)⟩
    haveI : HasNo K "Book" "look" := ⟨He.noat_ok (c.fact 10 rfl)⟩
    haveI : HasNo K "Book" "slots" := ⟨He.noat_ok (c.fact 11 rfl)⟩
    haveI : HasCls K "Mixer" := ⟨He.cls_ok (c.fact 12 rfl)⟩
    haveI : HasNo K "Mixer" "shares" := ⟨He.noat_ok (c.fact 13 rfl)⟩
    haveI : HasCls K "Foreteller" := ⟨He.cls_ok (c.fact 14 rfl)⟩
    haveI : HasNo K "Foreteller" "kinds" := ⟨He.noat_ok (c.fact 15 rfl)⟩
    haveI : HasNo K "Foreteller" "books" := ⟨He.noat_ok (c.fact 16 rfl)⟩
    haveI : HasNo K "Foreteller" "mixer" := ⟨He.noat_ok (c.fact 17 rfl)⟩
    haveI : HasNo K "Foreteller" "ended" := ⟨He.noat_ok (c.fact 18 rfl)⟩
    haveI : HasNo K "Foreteller" "place" := ⟨He.noat_ok (c.fact 19 rfl)⟩
    haveI : HasNo K "Foreteller" "past" := ⟨He.noat_ok (c.fact 20 rfl)⟩
    haveI : HasCls K "Span" := ⟨He.cls_ok (c.fact 21 rfl)⟩
    haveI : HasNo K "Span" "low" := ⟨He.noat_ok (c.fact 22 rfl)⟩
    haveI : HasNo K "Span" "width" := ⟨He.noat_ok (c.fact 23 rfl)⟩
    haveI : HasNo K "Span" "size" := ⟨He.noat_ok (c.fact 24 rfl)⟩
    haveI : HasCls K "Seeker" := ⟨He.cls_ok (c.fact 25 rfl)⟩
    haveI : HasNo K "Seeker" "row" := ⟨He.noat_ok (c.fact 26 rfl)⟩
    haveI : HasNo K "Seeker" "span" := ⟨He.noat_ok (c.fact 27 rfl)⟩
    haveI : HasNo K "Seeker" "number" := ⟨He.noat_ok (c.fact 28 rfl)⟩
    haveI : HasNo K "Seeker" "taken" := ⟨He.noat_ok (c.fact 29 rfl)⟩
    haveI : HasCls K "Store" := ⟨He.cls_ok (c.fact 30 rfl)⟩
    haveI : HasNo K "Store" "kinds" := ⟨He.noat_ok (c.fact 31 rfl)⟩
    haveI : HasNo K "Store" "longest" := ⟨He.noat_ok (c.fact 32 rfl)⟩
    haveI : HasNo K "Store" "pieces" := ⟨He.noat_ok (c.fact 33 rfl)⟩
    haveI : HasTup K "KINDS" [.str "even", .str "quick", .str "run"] := tup_ok (c.ext 0 rfl)
    exact pure_Even_chance K h)
theorem cb_Quick_init (KX : K.In h) (G : h.Ns mainGlobals mg) (c : SaysX fa fn xf K) : Cb P w K mg base 1 (He.fAd K ("Quick", some "__init__")) ["self"] [] (sp_Quick_init K) :=
  cb_of (T := t_Quick_init K) (c.def_ 14 rfl) sc_Quick_init (fun vs H Q E h => by
    obtain ⟨_, rfl, _⟩ := h
    rfl) (fun _ _ _ _ _ _ us hl => match us, hl with | [_], _ => rfl)
   (fun cdv A outer s H E hr => by
    have nd := sc_Quick_init.nd
    have ho := out_def (cxD_takes (P := P) (w := w) (K := K) (mg := mg) (base := base) (N := N_Quick_init) (qual := "Quick.__init__") (st := s_Quick_init) (f := He.fAd K ("Quick", some "__init__")) (cdv := cdv) (A := A) (outer := outer) (s := s) (H := H) (E := E))
    have tk := cxD_takes (P := P) (w := w) (K := K) (mg := mg) (base := base) (N := N_Quick_init) (qual := "Quick.__init__") (st := s_Quick_init) (f := He.fAd K ("Quick", some "__init__")) (cdv := cdv) (A := A) (outer := outer) (s := s) (H := H) (E := E)
    have pz := cxD_passes (P := P) (w := w) (K := K) (mg := mg) (base := base) (N := N_Quick_init) (qual := "Quick.__init__") (st := s_Quick_init) (f := He.fAd K ("Quick", some "__init__")) (cdv := cdv) (A := A) (outer := outer) (s := s) (H := H) (E := E)
    exact pss_one (ps_fld (pv 0) (pe_op o_floor (pe_gint (He.int_ok KX G (c.fact 37 rfl))) (pe_int)) rfl))
   (fun vs H Q E h => by
    obtain ⟨_, rfl, h⟩ := h
    haveI : HasCls K "Slot" := ⟨He.cls_ok (c.fact 0 rfl)⟩
    haveI : HasCls K "Even" := ⟨He.cls_ok (c.fact 1 rfl)⟩
    haveI : HasNo K "Even" "noughts" := ⟨He.noat_ok (c.fact 2 rfl)⟩
    haveI : HasNo K "Even" "ones" := ⟨He.noat_ok (c.fact 3 rfl)⟩
    haveI : HasCls K "Quick" := ⟨He.cls_ok (c.fact 4 rfl)⟩
    haveI : HasNo K "Quick" "held" := ⟨He.noat_ok (c.fact 5 rfl)⟩
    haveI : HasCls K "Run" := ⟨He.cls_ok (c.fact 6 rfl)⟩
    haveI : HasNo K "Run" "last" := ⟨He.noat_ok (c.fact 7 rfl)⟩
    haveI : HasNo K "Run" "length" := ⟨He.noat_ok (c.fact 8 rfl)⟩
    haveI : HasCls K "Book" := ⟨He.cls_ok (c.fact 9 rfl)⟩
    haveI : HasNo K "Book" "look" := ⟨He.noat_ok (c.fact 10 rfl)⟩
    haveI : HasNo K "Book" "slots" := ⟨He.noat_ok (c.fact 11 rfl)⟩
    haveI : HasCls K "Mixer" := ⟨He.cls_ok (c.fact 12 rfl)⟩
    haveI : HasNo K "Mixer" "shares" := ⟨He.noat_ok (c.fact 13 rfl)⟩
    haveI : HasCls K "Foreteller" := ⟨He.cls_ok (c.fact 14 rfl)⟩
    haveI : HasNo K "Foreteller" "kinds" := ⟨He.noat_ok (c.fact 15 rfl)⟩
    haveI : HasNo K "Foreteller" "books" := ⟨He.noat_ok (c.fact 16 rfl)⟩
    haveI : HasNo K "Foreteller" "mixer" := ⟨He.noat_ok (c.fact 17 rfl)⟩
    haveI : HasNo K "Foreteller" "ended" := ⟨He.noat_ok (c.fact 18 rfl)⟩
    haveI : HasNo K "Foreteller" "place" := ⟨He.noat_ok (c.fact 19 rfl)⟩
    haveI : HasNo K "Foreteller" "past" := ⟨He.noat_ok (c.fact 20 rfl)⟩
    haveI : HasCls K "Span" := ⟨He.cls_ok (c.fact 21 rfl)⟩
    haveI : HasNo K "Span" "low" := ⟨He.noat_ok (c.fact 22 rfl)⟩
    haveI : HasNo K "Span" "width" := ⟨He.noat_ok (c.fact 23 rfl)⟩
    haveI : HasNo K "Span" "size" := ⟨He.noat_ok (c.fact 24 rfl)⟩
    haveI : HasCls K "Seeker" := ⟨He.cls_ok (c.fact 25 rfl)⟩
    haveI : HasNo K "Seeker" "row" := ⟨He.noat_ok (c.fact 26 rfl)⟩
    haveI : HasNo K "Seeker" "span" := ⟨He.noat_ok (c.fact 27 rfl)⟩
    haveI : HasNo K "Seeker" "number" := ⟨He.noat_ok (c.fact 28 rfl)⟩
    haveI : HasNo K "Seeker" "taken" := ⟨He.noat_ok (c.fact 29 rfl)⟩
    haveI : HasCls K "Store" := ⟨He.cls_ok (c.fact 30 rfl)⟩
    haveI : HasNo K "Store" "kinds" := ⟨He.noat_ok (c.fact 31 rfl)⟩
    haveI : HasNo K "Store" "longest" := ⟨He.noat_ok (c.fact 32 rfl)⟩
    haveI : HasNo K "Store" "pieces" := ⟨He.noat_ok (c.fact 33 rfl)⟩
    haveI : HasTup K "KINDS" [.str "even", .str "quick", .str "run"] := tup_ok (c.ext 0 rfl)
    exact pure_Quick_init K h)
theorem cb_Quick_chance (KX : K.In h) (G : h.Ns mainGlobals mg) (c : SaysX fa fn xf K) : Cb P w K mg base 1 (He.fAd K ("Quick", some "chance")) ["self"] [] (sp_Quick_chance K) :=
  cb_of (T := t_Quick_chance K) (c.def_ 15 rfl) sc_Quick_chance (fun vs H Q E h => by
    obtain ⟨_, rfl, _⟩ := h
    rfl) (fun _ _ _ _ _ _ us hl => match us, hl with | [_], _ => rfl)
   (fun cdv A outer s H E hr => by
    have nd := sc_Quick_chance.nd
    have ho := out_def (cxD_takes (P := P) (w := w) (K := K) (mg := mg) (base := base) (N := N_Quick_chance) (qual := "Quick.chance") (st := s_Quick_chance) (f := He.fAd K ("Quick", some "chance")) (cdv := cdv) (A := A) (outer := outer) (s := s) (H := H) (E := E))
    have tk := cxD_takes (P := P) (w := w) (K := K) (mg := mg) (base := base) (N := N_Quick_chance) (qual := "Quick.chance") (st := s_Quick_chance) (f := He.fAd K ("Quick", some "chance")) (cdv := cdv) (A := A) (outer := outer) (s := s) (H := H) (E := E)
    have pz := cxD_passes (P := P) (w := w) (K := K) (mg := mg) (base := base) (N := N_Quick_chance) (qual := "Quick.chance") (st := s_Quick_chance) (f := He.fAd K ("Quick", some "chance")) (cdv := cdv) (A := A) (outer := outer) (s := s) (H := H) (E := E)
    exact pss_one (ps_ret (pe_fld (pv 0) rfl)))
   (fun vs H Q E h => by
    obtain ⟨_, rfl, h⟩ := h
    haveI : HasCls K "Slot" := ⟨He.cls_ok (c.fact 0 rfl)⟩
    haveI : HasCls K "Even" := ⟨He.cls_ok (c.fact 1 rfl)⟩
    haveI : HasNo K "Even" "noughts" := ⟨He.noat_ok (c.fact 2 rfl)⟩
    haveI : HasNo K "Even" "ones" := ⟨He.noat_ok (c.fact 3 rfl)⟩
    haveI : HasCls K "Quick" := ⟨He.cls_ok (c.fact 4 rfl)⟩
    haveI : HasNo K "Quick" "held" := ⟨He.noat_ok (c.fact 5 rfl)⟩
    haveI : HasCls K "Run" := ⟨He.cls_ok (c.fact 6 rfl)⟩
    haveI : HasNo K "Run" "last" := ⟨He.noat_ok (c.fact 7 rfl)⟩
    haveI : HasNo K "Run" "length" := ⟨He.noat_ok (c.fact 8 rfl)⟩
    haveI : HasCls K "Book" := ⟨He.cls_ok (c.fact 9 rfl)⟩
    haveI : HasNo K "Book" "look" := ⟨He.noat_ok (c.fact 10 rfl)⟩
    haveI : HasNo K "Book" "slots" := ⟨He.noat_ok (c.fact 11 rfl)⟩
    haveI : HasCls K "Mixer" := ⟨He.cls_ok (c.fact 12 rfl)⟩
    haveI : HasNo K "Mixer" "shares" := ⟨He.noat_ok (c.fact 13 rfl)⟩
    haveI : HasCls K "Foreteller" := ⟨He.cls_ok (c.fact 14 rfl)⟩
    haveI : HasNo K "Foreteller" "kinds" := ⟨He.noat_ok (c.fact 15 rfl)⟩
    haveI : HasNo K "Foreteller" "books" := ⟨He.noat_ok (c.fact 16 rfl)⟩
    haveI : HasNo K "Foreteller" "mixer" := ⟨He.noat_ok (c.fact 17 rfl)⟩
    haveI : HasNo K "Foreteller" "ended" := ⟨He.noat_ok (c.fact 18 rfl)⟩
    haveI : HasNo K "Foreteller" "place" := ⟨He.noat_ok (c.fact 19 rfl)⟩
    haveI : HasNo K "Foreteller" "past" := ⟨He.noat_ok (c.fact 20 rfl)⟩
    haveI : HasCls K "Span" := ⟨He.cls_ok (c.fact 21 rfl)⟩
    haveI : HasNo K "Span" "low" := ⟨He.noat_ok (c.fact 22 rfl)⟩
    haveI : HasNo K "Span" "width" := ⟨He.noat_ok (c.fact 23 rfl)⟩
    haveI : HasNo K "Span" "size" := ⟨He.noat_ok (c.fact 24 rfl)⟩
    haveI : HasCls K "Seeker" := ⟨He.cls_ok (c.fact 25 rfl)⟩
    haveI : HasNo K "Seeker" "row" := ⟨He.noat_ok (c.fact 26 rfl)⟩
    haveI : HasNo K "Seeker" "span" := ⟨He.noat_ok (c.fact 27 rfl)⟩
    haveI : HasNo K "Seeker" "number" := ⟨He.noat_ok (c.fact 28 rfl)⟩
    haveI : HasNo K "Seeker" "taken" := ⟨He.noat_ok (c.fact 29 rfl)⟩
    haveI : HasCls K "Store" := ⟨He.cls_ok (c.fact 30 rfl)⟩
    haveI : HasNo K "Store" "kinds" := ⟨He.noat_ok (c.fact 31 rfl)⟩
    haveI : HasNo K "Store" "longest" := ⟨He.noat_ok (c.fact 32 rfl)⟩
    haveI : HasNo K "Store" "pieces" := ⟨He.noat_ok (c.fact 33 rfl)⟩
    haveI : HasTup K "KINDS" [.str "even", .str "quick", .str "run"] := tup_ok (c.ext 0 rfl)
    exact pure_Quick_chance K h)
theorem cb_Run_init (KX : K.In h) (G : h.Ns mainGlobals mg) (c : SaysX fa fn xf K) : Cb P w K mg base 1 (He.fAd K ("Run", some "__init__")) ["self"] [] (sp_Run_init K) :=
  cb_of (T := t_Run_init K) (c.def_ 17 rfl) sc_Run_init (fun vs H Q E h => by
    obtain ⟨_, rfl, _⟩ := h
    rfl) (fun _ _ _ _ _ _ us hl => match us, hl with | [_], _ => rfl)
   (fun cdv A outer s H E hr => by
    have nd := sc_Run_init.nd
    have ho := out_def (cxD_takes (P := P) (w := w) (K := K) (mg := mg) (base := base) (N := N_Run_init) (qual := "Run.__init__") (st := s_Run_init) (f := He.fAd K ("Run", some "__init__")) (cdv := cdv) (A := A) (outer := outer) (s := s) (H := H) (E := E))
    have tk := cxD_takes (P := P) (w := w) (K := K) (mg := mg) (base := base) (N := N_Run_init) (qual := "Run.__init__") (st := s_Run_init) (f := He.fAd K ("Run", some "__init__")) (cdv := cdv) (A := A) (outer := outer) (s := s) (H := H) (E := E)
    have pz := cxD_passes (P := P) (w := w) (K := K) (mg := mg) (base := base) (N := N_Run_init) (qual := "Run.__init__") (st := s_Run_init) (f := He.fAd K ("Run", some "__init__")) (cdv := cdv) (A := A) (outer := outer) (s := s) (H := H) (E := E)
    exact pss_cons (ps_fld (pv 0) (pe_int) rfl)
       (pss_one (ps_fld (pv 0) (pe_int) rfl)))
   (fun vs H Q E h => by
    obtain ⟨_, rfl, h⟩ := h
    haveI : HasCls K "Slot" := ⟨He.cls_ok (c.fact 0 rfl)⟩
    haveI : HasCls K "Even" := ⟨He.cls_ok (c.fact 1 rfl)⟩
    haveI : HasNo K "Even" "noughts" := ⟨He.noat_ok (c.fact 2 rfl)⟩
    haveI : HasNo K "Even" "ones" := ⟨He.noat_ok (c.fact 3 rfl)⟩
    haveI : HasCls K "Quick" := ⟨He.cls_ok (c.fact 4 rfl)⟩
    haveI : HasNo K "Quick" "held" := ⟨He.noat_ok (c.fact 5 rfl)⟩
    haveI : HasCls K "Run" := ⟨He.cls_ok (c.fact 6 rfl)⟩
    haveI : HasNo K "Run" "last" := ⟨He.noat_ok (c.fact 7 rfl)⟩
    haveI : HasNo K "Run" "length" := ⟨He.noat_ok (c.fact 8 rfl)⟩
    haveI : HasCls K "Book" := ⟨He.cls_ok (c.fact 9 rfl)⟩
    haveI : HasNo K "Book" "look" := ⟨He.noat_ok (c.fact 10 rfl)⟩
    haveI : HasNo K "Book" "slots" := ⟨He.noat_ok (c.fact 11 rfl)⟩
    haveI : HasCls K "Mixer" := ⟨He.cls_ok (c.fact 12 rfl)⟩
    haveI : HasNo K "Mixer" "shares" := ⟨He.noat_ok (c.fact 13 rfl)⟩
    haveI : HasCls K "Foreteller" := ⟨He.cls_ok (c.fact 14 rfl)⟩
    haveI : HasNo K "Foreteller" "kinds" := ⟨He.noat_ok (c.fact 15 rfl)⟩
    haveI : HasNo K "Foreteller" "books" := ⟨He.noat_ok (c.fact 16 rfl)⟩
    haveI : HasNo K "Foreteller" "mixer" := ⟨He.noat_ok (c.fact 17 rfl)⟩
    haveI : HasNo K "Foreteller" "ended" := ⟨He.noat_ok (c.fact 18 rfl)⟩
    haveI : HasNo K "Foreteller" "place" := ⟨He.noat_ok (c.fact 19 rfl)⟩
    haveI : HasNo K "Foreteller" "past" := ⟨He.noat_ok (c.fact 20 rfl)⟩
    haveI : HasCls K "Span" := ⟨He.cls_ok (c.fact 21 rfl)⟩
    haveI : HasNo K "Span" "low" := ⟨He.noat_ok (c.fact 22 rfl)⟩
    haveI : HasNo K "Span" "width" := ⟨He.noat_ok (c.fact 23 rfl)⟩
    haveI : HasNo K "Span" "size" := ⟨He.noat_ok (c.fact 24 rfl)⟩
    haveI : HasCls K "Seeker" := ⟨He.cls_ok (c.fact 25 rfl)⟩
    haveI : HasNo K "Seeker" "row" := ⟨He.noat_ok (c.fact 26 rfl)⟩
    haveI : HasNo K "Seeker" "span" := ⟨He.noat_ok (c.fact 27 rfl)⟩
    haveI : HasNo K "Seeker" "number" := ⟨He.noat_ok (c.fact 28 rfl)⟩
    haveI : HasNo K "Seeker" "taken" := ⟨He.noat_ok (c.fact 29 rfl)⟩
    haveI : HasCls K "Store" := ⟨He.cls_ok (c.fact 30 rfl)⟩
    haveI : HasNo K "Store" "kinds" := ⟨He.noat_ok (c.fact 31 rfl)⟩
    haveI : HasNo K "Store" "longest" := ⟨He.noat_ok (c.fact 32 rfl)⟩
    haveI : HasNo K "Store" "pieces" := ⟨He.noat_ok (c.fact 33 rfl)⟩
    haveI : HasTup K "KINDS" [.str "even", .str "quick", .str "run"] := tup_ok (c.ext 0 rfl)
    exact pure_Run_init K h)
theorem cb_Run_chance (KX : K.In h) (G : h.Ns mainGlobals mg) (c : SaysX fa fn xf K) : Cb P w K mg base 1 (He.fAd K ("Run", some "chance")) ["self"] [] (sp_Run_chance K) :=
  cb_of (T := t_Run_chance K) (c.def_ 18 rfl) sc_Run_chance (fun vs H Q E h => by
    obtain ⟨_, rfl, _⟩ := h
    rfl) (fun _ _ _ _ _ _ us hl => match us, hl with | [_], _ => rfl)
   (fun cdv A outer s H E hr => by
    have nd := sc_Run_chance.nd
    have ho := out_def (cxD_takes (P := P) (w := w) (K := K) (mg := mg) (base := base) (N := N_Run_chance) (qual := "Run.chance") (st := s_Run_chance) (f := He.fAd K ("Run", some "chance")) (cdv := cdv) (A := A) (outer := outer) (s := s) (H := H) (E := E))
    have tk := cxD_takes (P := P) (w := w) (K := K) (mg := mg) (base := base) (N := N_Run_chance) (qual := "Run.chance") (st := s_Run_chance) (f := He.fAd K ("Run", some "chance")) (cdv := cdv) (A := A) (outer := outer) (s := s) (H := H) (E := E)
    have pz := cxD_passes (P := P) (w := w) (K := K) (mg := mg) (base := base) (N := N_Run_chance) (qual := "Run.chance") (st := s_Run_chance) (f := He.fAd K ("Run", some "chance")) (cdv := cdv) (A := A) (outer := outer) (s := s) (H := H) (E := E)
    exact pss_cons (ps_set (i := 1) nd rfl (by first | exact Or.inl rfl | exact Or.inr rfl) (pe_op o_floor (pe_op o_times (pe_op o_plus (pe_op o_times (pe_int) (pe_fld (pv 0) rfl)) (pe_int)) (pe_gint (He.int_ok KX G (c.fact 37 rfl)))) (pe_op o_plus (pe_op o_times (pe_int) (pe_fld (pv 0) rfl)) (pe_int))))
       (pss_cons (ps_if (pt_cmpR (o_same hr.units) (pe_fld (pv 0) rfl) (pe_int) (nomark _)) (pss_one (ps_ret (pv 1))) (pss_nil))
       (pss_one (ps_ret (pe_op o_minus (pe_gint (He.int_ok KX G (c.fact 37 rfl))) (pv 1))))))
   (fun vs H Q E h => by
    obtain ⟨_, rfl, h⟩ := h
    haveI : HasCls K "Slot" := ⟨He.cls_ok (c.fact 0 rfl)⟩
    haveI : HasCls K "Even" := ⟨He.cls_ok (c.fact 1 rfl)⟩
    haveI : HasNo K "Even" "noughts" := ⟨He.noat_ok (c.fact 2 rfl)⟩
    haveI : HasNo K "Even" "ones" := ⟨He.noat_ok (c.fact 3 rfl)⟩
    haveI : HasCls K "Quick" := ⟨He.cls_ok (c.fact 4 rfl)⟩
    haveI : HasNo K "Quick" "held" := ⟨He.noat_ok (c.fact 5 rfl)⟩
    haveI : HasCls K "Run" := ⟨He.cls_ok (c.fact 6 rfl)⟩
    haveI : HasNo K "Run" "last" := ⟨He.noat_ok (c.fact 7 rfl)⟩
    haveI : HasNo K "Run" "length" := ⟨He.noat_ok (c.fact 8 rfl)⟩
    haveI : HasCls K "Book" := ⟨He.cls_ok (c.fact 9 rfl)⟩
    haveI : HasNo K "Book" "look" := ⟨He.noat_ok (c.fact 10 rfl)⟩
    haveI : HasNo K "Book" "slots" := ⟨He.noat_ok (c.fact 11 rfl)⟩
    haveI : HasCls K "Mixer" := ⟨He.cls_ok (c.fact 12 rfl)⟩
    haveI : HasNo K "Mixer" "shares" := ⟨He.noat_ok (c.fact 13 rfl)⟩
    haveI : HasCls K "Foreteller" := ⟨He.cls_ok (c.fact 14 rfl)⟩
    haveI : HasNo K "Foreteller" "kinds" := ⟨He.noat_ok (c.fact 15 rfl)⟩
    haveI : HasNo K "Foreteller" "books" := ⟨He.noat_ok (c.fact 16 rfl)⟩
    haveI : HasNo K "Foreteller" "mixer" := ⟨He.noat_ok (c.fact 17 rfl)⟩
    haveI : HasNo K "Foreteller" "ended" := ⟨He.noat_ok (c.fact 18 rfl)⟩
    haveI : HasNo K "Foreteller" "place" := ⟨He.noat_ok (c.fact 19 rfl)⟩
    haveI : HasNo K "Foreteller" "past" := ⟨He.noat_ok (c.fact 20 rfl)⟩
    haveI : HasCls K "Span" := ⟨He.cls_ok (c.fact 21 rfl)⟩
    haveI : HasNo K "Span" "low" := ⟨He.noat_ok (c.fact 22 rfl)⟩
    haveI : HasNo K "Span" "width" := ⟨He.noat_ok (c.fact 23 rfl)⟩
    haveI : HasNo K "Span" "size" := ⟨He.noat_ok (c.fact 24 rfl)⟩
    haveI : HasCls K "Seeker" := ⟨He.cls_ok (c.fact 25 rfl)⟩
    haveI : HasNo K "Seeker" "row" := ⟨He.noat_ok (c.fact 26 rfl)⟩
    haveI : HasNo K "Seeker" "span" := ⟨He.noat_ok (c.fact 27 rfl)⟩
    haveI : HasNo K "Seeker" "number" := ⟨He.noat_ok (c.fact 28 rfl)⟩
    haveI : HasNo K "Seeker" "taken" := ⟨He.noat_ok (c.fact 29 rfl)⟩
    haveI : HasCls K "Store" := ⟨He.cls_ok (c.fact 30 rfl)⟩
    haveI : HasNo K "Store" "kinds" := ⟨He.noat_ok (c.fact 31 rfl)⟩
    haveI : HasNo K "Store" "longest" := ⟨He.noat_ok (c.fact 32 rfl)⟩
    haveI : HasNo K "Store" "pieces" := ⟨He.noat_ok (c.fact 33 rfl)⟩
    haveI : HasTup K "KINDS" [.str "even", .str "quick", .str "run"] := tup_ok (c.ext 0 rfl)
    exact pure_Run_chance K h)
theorem cb_context_of (KX : K.In h) (G : h.Ns mainGlobals mg) (c : SaysX fa fn xf K) : Cb P w K mg base 1 (He.fAd K ("context_of", none)) ["look", "signs", "node"] [] (sp_context_of K) :=
  cb_of (T := t_context_of K) (c.def_ 24 rfl) sc_context_of (fun vs H Q E h => by
    obtain ⟨_, _, _, rfl, _⟩ := h
    rfl) (fun _ _ _ _ _ _ us hl => match us, hl with | [_, _, _], _ => rfl)
   (fun cdv A outer s H E hr => by
    have nd := sc_context_of.nd
    have ho := out_def (cxD_takes (P := P) (w := w) (K := K) (mg := mg) (base := base) (N := N_context_of) (qual := "context_of") (st := s_context_of) (f := He.fAd K ("context_of", none)) (cdv := cdv) (A := A) (outer := outer) (s := s) (H := H) (E := E))
    have tk := cxD_takes (P := P) (w := w) (K := K) (mg := mg) (base := base) (N := N_context_of) (qual := "context_of") (st := s_context_of) (f := He.fAd K ("context_of", none)) (cdv := cdv) (A := A) (outer := outer) (s := s) (H := H) (E := E)
    have pz := cxD_passes (P := P) (w := w) (K := K) (mg := mg) (base := base) (N := N_context_of) (qual := "context_of") (st := s_context_of) (f := He.fAd K ("context_of", none)) (cdv := cdv) (A := A) (outer := outer) (s := s) (H := H) (E := E)
    exact pss_cons (ps_set (i := 3) nd rfl (by first | exact Or.inl rfl | exact Or.inr rfl) (pe_lst (pa_nil)))
       (pss_cons (ps_for pz rfl (pi_tup (pe_ix ix_seq (pv 0) (pe_int) (fun _ _ => rfl))) (pg_name (i := 4) nd rfl (by first | exact Or.inl rfl | exact Or.inr rfl)) (pss_one (ps_if (pt_cmpR o_le (pv 4) (pe_callB c_len (by rfl) (He.free_ok KX G (c.fact 38 rfl)) (by decide +kernel) (pa_cons (pv 1) (pa_nil))) (nomark _)) (pss_one (ps_expr (pe_bm PySem.F.plainAttrs_list PySem.F.slot_list_append PySem.F.type_list_append mt_append (pv 3) (pa_cons (pe_ix ix_seq (pv 1) (pe_op o_minus (pe_callB c_len (by rfl) (He.free_ok KX G (c.fact 38 rfl)) (by decide +kernel) (pa_cons (pv 1) (pa_nil))) (pv 4)) (fun _ _ => rfl)) (pa_nil))))) (pss_one (ps_expr (pe_bm PySem.F.plainAttrs_list PySem.F.slot_list_append PySem.F.type_list_append mt_append (pv 3) (pa_cons (pe_gint (He.int_ok KX G (c.fact 40 rfl))) (pa_nil))))))))
       (pss_one (ps_ret (pe_callTy c_tuple (by rfl) (He.free_ok KX G (c.fact 39 rfl)) (by decide +kernel) (pa_cons (pe_op o_plus (pv 3) (pe_lst (pa_cons (pv 2) (pa_nil)))) (pa_nil)))))))
   (fun vs H Q E h => by
    obtain ⟨_, _, _, rfl, h⟩ := h
    haveI : HasCls K "Slot" := ⟨He.cls_ok (c.fact 0 rfl)⟩
    haveI : HasCls K "Even" := ⟨He.cls_ok (c.fact 1 rfl)⟩
    haveI : HasNo K "Even" "noughts" := ⟨He.noat_ok (c.fact 2 rfl)⟩
    haveI : HasNo K "Even" "ones" := ⟨He.noat_ok (c.fact 3 rfl)⟩
    haveI : HasCls K "Quick" := ⟨He.cls_ok (c.fact 4 rfl)⟩
    haveI : HasNo K "Quick" "held" := ⟨He.noat_ok (c.fact 5 rfl)⟩
    haveI : HasCls K "Run" := ⟨He.cls_ok (c.fact 6 rfl)⟩
    haveI : HasNo K "Run" "last" := ⟨He.noat_ok (c.fact 7 rfl)⟩
    haveI : HasNo K "Run" "length" := ⟨He.noat_ok (c.fact 8 rfl)⟩
    haveI : HasCls K "Book" := ⟨He.cls_ok (c.fact 9 rfl)⟩
    haveI : HasNo K "Book" "look" := ⟨He.noat_ok (c.fact 10 rfl)⟩
    haveI : HasNo K "Book" "slots" := ⟨He.noat_ok (c.fact 11 rfl)⟩
    haveI : HasCls K "Mixer" := ⟨He.cls_ok (c.fact 12 rfl)⟩
    haveI : HasNo K "Mixer" "shares" := ⟨He.noat_ok (c.fact 13 rfl)⟩
    haveI : HasCls K "Foreteller" := ⟨He.cls_ok (c.fact 14 rfl)⟩
    haveI : HasNo K "Foreteller" "kinds" := ⟨He.noat_ok (c.fact 15 rfl)⟩
    haveI : HasNo K "Foreteller" "books" := ⟨He.noat_ok (c.fact 16 rfl)⟩
    haveI : HasNo K "Foreteller" "mixer" := ⟨He.noat_ok (c.fact 17 rfl)⟩
    haveI : HasNo K "Foreteller" "ended" := ⟨He.noat_ok (c.fact 18 rfl)⟩
    haveI : HasNo K "Foreteller" "place" := ⟨He.noat_ok (c.fact 19 rfl)⟩
    haveI : HasNo K "Foreteller" "past" := ⟨He.noat_ok (c.fact 20 rfl)⟩
    haveI : HasCls K "Span" := ⟨He.cls_ok (c.fact 21 rfl)⟩
    haveI : HasNo K "Span" "low" := ⟨He.noat_ok (c.fact 22 rfl)⟩
    haveI : HasNo K "Span" "width" := ⟨He.noat_ok (c.fact 23 rfl)⟩
    haveI : HasNo K "Span" "size" := ⟨He.noat_ok (c.fact 24 rfl)⟩
    haveI : HasCls K "Seeker" := ⟨He.cls_ok (c.fact 25 rfl)⟩
    haveI : HasNo K "Seeker" "row" := ⟨He.noat_ok (c.fact 26 rfl)⟩
    haveI : HasNo K "Seeker" "span" := ⟨He.noat_ok (c.fact 27 rfl)⟩
    haveI : HasNo K "Seeker" "number" := ⟨He.noat_ok (c.fact 28 rfl)⟩
    haveI : HasNo K "Seeker" "taken" := ⟨He.noat_ok (c.fact 29 rfl)⟩
    haveI : HasCls K "Store" := ⟨He.cls_ok (c.fact 30 rfl)⟩
    haveI : HasNo K "Store" "kinds" := ⟨He.noat_ok (c.fact 31 rfl)⟩
    haveI : HasNo K "Store" "longest" := ⟨He.noat_ok (c.fact 32 rfl)⟩
    haveI : HasNo K "Store" "pieces" := ⟨He.noat_ok (c.fact 33 rfl)⟩
    haveI : HasTup K "KINDS" [.str "even", .str "quick", .str "run"] := tup_ok (c.ext 0 rfl)
    exact pure_context_of K h)
theorem cb_Book_init (KX : K.In h) (G : h.Ns mainGlobals mg) (c : SaysX fa fn xf K) : Cb P w K mg base 1 (He.fAd K ("Book", some "__init__")) ["self", "look"] [] (sp_Book_init K) :=
  cb_of (T := t_Book_init K) (c.def_ 25 rfl) sc_Book_init (fun vs H Q E h => by
    obtain ⟨_, _, rfl, _⟩ := h
    rfl) (fun _ _ _ _ _ _ us hl => match us, hl with | [_, _], _ => rfl)
   (fun cdv A outer s H E hr => by
    have nd := sc_Book_init.nd
    have ho := out_def (cxD_takes (P := P) (w := w) (K := K) (mg := mg) (base := base) (N := N_Book_init) (qual := "Book.__init__") (st := s_Book_init) (f := He.fAd K ("Book", some "__init__")) (cdv := cdv) (A := A) (outer := outer) (s := s) (H := H) (E := E))
    have tk := cxD_takes (P := P) (w := w) (K := K) (mg := mg) (base := base) (N := N_Book_init) (qual := "Book.__init__") (st := s_Book_init) (f := He.fAd K ("Book", some "__init__")) (cdv := cdv) (A := A) (outer := outer) (s := s) (H := H) (E := E)
    have pz := cxD_passes (P := P) (w := w) (K := K) (mg := mg) (base := base) (N := N_Book_init) (qual := "Book.__init__") (st := s_Book_init) (f := He.fAd K ("Book", some "__init__")) (cdv := cdv) (A := A) (outer := outer) (s := s) (H := H) (E := E)
    exact pss_cons (ps_fld (pv 0) (pv 1) rfl)
       (pss_one (ps_fld (pv 0) (pe_dnewT) rfl)))
   (fun vs H Q E h => by
    obtain ⟨_, _, rfl, h⟩ := h
    haveI : HasCls K "Slot" := ⟨He.cls_ok (c.fact 0 rfl)⟩
    haveI : HasCls K "Even" := ⟨He.cls_ok (c.fact 1 rfl)⟩
    haveI : HasNo K "Even" "noughts" := ⟨He.noat_ok (c.fact 2 rfl)⟩
    haveI : HasNo K "Even" "ones" := ⟨He.noat_ok (c.fact 3 rfl)⟩
    haveI : HasCls K "Quick" := ⟨He.cls_ok (c.fact 4 rfl)⟩
    haveI : HasNo K "Quick" "held" := ⟨He.noat_ok (c.fact 5 rfl)⟩
    haveI : HasCls K "Run" := ⟨He.cls_ok (c.fact 6 rfl)⟩
    haveI : HasNo K "Run" "last" := ⟨He.noat_ok (c.fact 7 rfl)⟩
    haveI : HasNo K "Run" "length" := ⟨He.noat_ok (c.fact 8 rfl)⟩
    haveI : HasCls K "Book" := ⟨He.cls_ok (c.fact 9 rfl)⟩
    haveI : HasNo K "Book" "look" := ⟨He.noat_ok (c.fact 10 rfl)⟩
    haveI : HasNo K "Book" "slots" := ⟨He.noat_ok (c.fact 11 rfl)⟩
    haveI : HasCls K "Mixer" := ⟨He.cls_ok (c.fact 12 rfl)⟩
    haveI : HasNo K "Mixer" "shares" := ⟨He.noat_ok (c.fact 13 rfl)⟩
    haveI : HasCls K "Foreteller" := ⟨He.cls_ok (c.fact 14 rfl)⟩
    haveI : HasNo K "Foreteller" "kinds" := ⟨He.noat_ok (c.fact 15 rfl)⟩
    haveI : HasNo K "Foreteller" "books" := ⟨He.noat_ok (c.fact 16 rfl)⟩
    haveI : HasNo K "Foreteller" "mixer" := ⟨He.noat_ok (c.fact 17 rfl)⟩
    haveI : HasNo K "Foreteller" "ended" := ⟨He.noat_ok (c.fact 18 rfl)⟩
    haveI : HasNo K "Foreteller" "place" := ⟨He.noat_ok (c.fact 19 rfl)⟩
    haveI : HasNo K "Foreteller" "past" := ⟨He.noat_ok (c.fact 20 rfl)⟩
    haveI : HasCls K "Span" := ⟨He.cls_ok (c.fact 21 rfl)⟩
    haveI : HasNo K "Span" "low" := ⟨He.noat_ok (c.fact 22 rfl)⟩
    haveI : HasNo K "Span" "width" := ⟨He.noat_ok (c.fact 23 rfl)⟩
    haveI : HasNo K "Span" "size" := ⟨He.noat_ok (c.fact 24 rfl)⟩
    haveI : HasCls K "Seeker" := ⟨He.cls_ok (c.fact 25 rfl)⟩
    haveI : HasNo K "Seeker" "row" := ⟨He.noat_ok (c.fact 26 rfl)⟩
    haveI : HasNo K "Seeker" "span" := ⟨He.noat_ok (c.fact 27 rfl)⟩
    haveI : HasNo K "Seeker" "number" := ⟨He.noat_ok (c.fact 28 rfl)⟩
    haveI : HasNo K "Seeker" "taken" := ⟨He.noat_ok (c.fact 29 rfl)⟩
    haveI : HasCls K "Store" := ⟨He.cls_ok (c.fact 30 rfl)⟩
    haveI : HasNo K "Store" "kinds" := ⟨He.noat_ok (c.fact 31 rfl)⟩
    haveI : HasNo K "Store" "longest" := ⟨He.noat_ok (c.fact 32 rfl)⟩
    haveI : HasNo K "Store" "pieces" := ⟨He.noat_ok (c.fact 33 rfl)⟩
    haveI : HasTup K "KINDS" [.str "even", .str "quick", .str "run"] := tup_ok (c.ext 0 rfl)
    exact pure_Book_init K h)
theorem cb_Mixer_init (KX : K.In h) (G : h.Ns mainGlobals mg) (c : SaysX fa fn xf K) : Cb P w K mg base 1 (He.fAd K ("Mixer", some "__init__")) ["self", "many"] [] (sp_Mixer_init K) :=
  cb_of (T := t_Mixer_init K) (c.def_ 28 rfl) sc_Mixer_init (fun vs H Q E h => by
    obtain ⟨_, _, rfl, _⟩ := h
    rfl) (fun _ _ _ _ _ _ us hl => match us, hl with | [_, _], _ => rfl)
   (fun cdv A outer s H E hr => by
    have nd := sc_Mixer_init.nd
    have ho := out_def (cxD_takes (P := P) (w := w) (K := K) (mg := mg) (base := base) (N := N_Mixer_init) (qual := "Mixer.__init__") (st := s_Mixer_init) (f := He.fAd K ("Mixer", some "__init__")) (cdv := cdv) (A := A) (outer := outer) (s := s) (H := H) (E := E))
    have tk := cxD_takes (P := P) (w := w) (K := K) (mg := mg) (base := base) (N := N_Mixer_init) (qual := "Mixer.__init__") (st := s_Mixer_init) (f := He.fAd K ("Mixer", some "__init__")) (cdv := cdv) (A := A) (outer := outer) (s := s) (H := H) (E := E)
    have pz := cxD_passes (P := P) (w := w) (K := K) (mg := mg) (base := base) (N := N_Mixer_init) (qual := "Mixer.__init__") (st := s_Mixer_init) (f := He.fAd K ("Mixer", some "__init__")) (cdv := cdv) (A := A) (outer := outer) (s := s) (H := H) (E := E)
    exact pss_one (ps_fld (pv 0) (pe_op o_times (pe_lst (pa_cons (pe_gint (He.int_ok KX G (c.fact 41 rfl))) (pa_nil))) (pv 1)) rfl))
   (fun vs H Q E h => by
    obtain ⟨_, _, rfl, h⟩ := h
    haveI : HasCls K "Slot" := ⟨He.cls_ok (c.fact 0 rfl)⟩
    haveI : HasCls K "Even" := ⟨He.cls_ok (c.fact 1 rfl)⟩
    haveI : HasNo K "Even" "noughts" := ⟨He.noat_ok (c.fact 2 rfl)⟩
    haveI : HasNo K "Even" "ones" := ⟨He.noat_ok (c.fact 3 rfl)⟩
    haveI : HasCls K "Quick" := ⟨He.cls_ok (c.fact 4 rfl)⟩
    haveI : HasNo K "Quick" "held" := ⟨He.noat_ok (c.fact 5 rfl)⟩
    haveI : HasCls K "Run" := ⟨He.cls_ok (c.fact 6 rfl)⟩
    haveI : HasNo K "Run" "last" := ⟨He.noat_ok (c.fact 7 rfl)⟩
    haveI : HasNo K "Run" "length" := ⟨He.noat_ok (c.fact 8 rfl)⟩
    haveI : HasCls K "Book" := ⟨He.cls_ok (c.fact 9 rfl)⟩
    haveI : HasNo K "Book" "look" := ⟨He.noat_ok (c.fact 10 rfl)⟩
    haveI : HasNo K "Book" "slots" := ⟨He.noat_ok (c.fact 11 rfl)⟩
    haveI : HasCls K "Mixer" := ⟨He.cls_ok (c.fact 12 rfl)⟩
    haveI : HasNo K "Mixer" "shares" := ⟨He.noat_ok (c.fact 13 rfl)⟩
    haveI : HasCls K "Foreteller" := ⟨He.cls_ok (c.fact 14 rfl)⟩
    haveI : HasNo K "Foreteller" "kinds" := ⟨He.noat_ok (c.fact 15 rfl)⟩
    haveI : HasNo K "Foreteller" "books" := ⟨He.noat_ok (c.fact 16 rfl)⟩
    haveI : HasNo K "Foreteller" "mixer" := ⟨He.noat_ok (c.fact 17 rfl)⟩
    haveI : HasNo K "Foreteller" "ended" := ⟨He.noat_ok (c.fact 18 rfl)⟩
    haveI : HasNo K "Foreteller" "place" := ⟨He.noat_ok (c.fact 19 rfl)⟩
    haveI : HasNo K "Foreteller" "past" := ⟨He.noat_ok (c.fact 20 rfl)⟩
    haveI : HasCls K "Span" := ⟨He.cls_ok (c.fact 21 rfl)⟩
    haveI : HasNo K "Span" "low" := ⟨He.noat_ok (c.fact 22 rfl)⟩
    haveI : HasNo K "Span" "width" := ⟨He.noat_ok (c.fact 23 rfl)⟩
    haveI : HasNo K "Span" "size" := ⟨He.noat_ok (c.fact 24 rfl)⟩
    haveI : HasCls K "Seeker" := ⟨He.cls_ok (c.fact 25 rfl)⟩
    haveI : HasNo K "Seeker" "row" := ⟨He.noat_ok (c.fact 26 rfl)⟩
    haveI : HasNo K "Seeker" "span" := ⟨He.noat_ok (c.fact 27 rfl)⟩
    haveI : HasNo K "Seeker" "number" := ⟨He.noat_ok (c.fact 28 rfl)⟩
    haveI : HasNo K "Seeker" "taken" := ⟨He.noat_ok (c.fact 29 rfl)⟩
    haveI : HasCls K "Store" := ⟨He.cls_ok (c.fact 30 rfl)⟩
    haveI : HasNo K "Store" "kinds" := ⟨He.noat_ok (c.fact 31 rfl)⟩
    haveI : HasNo K "Store" "longest" := ⟨He.noat_ok (c.fact 32 rfl)⟩
    haveI : HasNo K "Store" "pieces" := ⟨He.noat_ok (c.fact 33 rfl)⟩
    haveI : HasTup K "KINDS" [.str "even", .str "quick", .str "run"] := tup_ok (c.ext 0 rfl)
    exact pure_Mixer_init K h)
theorem cb_Mixer_mixed (KX : K.In h) (G : h.Ns mainGlobals mg) (c : SaysX fa fn xf K) : Cb P w K mg base 1 (He.fAd K ("Mixer", some "mixed")) ["self", "chances"] [] (sp_Mixer_mixed K) :=
  cb_of (T := t_Mixer_mixed K) (c.def_ 29 rfl) sc_Mixer_mixed (fun vs H Q E h => by
    obtain ⟨_, _, rfl, _⟩ := h
    rfl) (fun _ _ _ _ _ _ us hl => match us, hl with | [_, _], _ => rfl)
   (fun cdv A outer s H E hr => by
    have nd := sc_Mixer_mixed.nd
    have ho := out_def (cxD_takes (P := P) (w := w) (K := K) (mg := mg) (base := base) (N := N_Mixer_mixed) (qual := "Mixer.mixed") (st := s_Mixer_mixed) (f := He.fAd K ("Mixer", some "mixed")) (cdv := cdv) (A := A) (outer := outer) (s := s) (H := H) (E := E))
    have tk := cxD_takes (P := P) (w := w) (K := K) (mg := mg) (base := base) (N := N_Mixer_mixed) (qual := "Mixer.mixed") (st := s_Mixer_mixed) (f := He.fAd K ("Mixer", some "mixed")) (cdv := cdv) (A := A) (outer := outer) (s := s) (H := H) (E := E)
    have pz := cxD_passes (P := P) (w := w) (K := K) (mg := mg) (base := base) (N := N_Mixer_mixed) (qual := "Mixer.mixed") (st := s_Mixer_mixed) (f := He.fAd K ("Mixer", some "mixed")) (cdv := cdv) (A := A) (outer := outer) (s := s) (H := H) (E := E)
    exact pss_cons (ps_set (i := 2) nd rfl (by first | exact Or.inl rfl | exact Or.inr rfl) (pe_int))
       (pss_cons (ps_for pz rfl (pi_zip (by rfl) (He.free_ok KX G (c.fact 42 rfl)) (pa_cons (pe_fld (pv 0) rfl) (pa_cons (pv 1) (pa_nil)))) (pg_tup rfl (pgs_cons (pg_name (i := 3) nd rfl (by first | exact Or.inl rfl | exact Or.inr rfl)) (pgs_cons (pg_name (i := 4) nd rfl (by first | exact Or.inl rfl | exact Or.inr rfl)) (pgs_nil)))) (pss_one (ps_aug (i := 2) nd rfl (by first | exact Or.inl rfl | exact Or.inr rfl) (pe_op o_times (pv 3) (pv 4)) ip_add)))
       (pss_one (ps_ret (pe_op o_floor (pv 2) (pe_callB (c_sum rfl) (by rfl) (He.free_ok KX G (c.fact 43 rfl)) (by decide +kernel) (pa_cons (pe_fld (pv 0) rfl) (pa_nil))))))))
   (fun vs H Q E h => by
    obtain ⟨_, _, rfl, h⟩ := h
    haveI : HasCls K "Slot" := ⟨He.cls_ok (c.fact 0 rfl)⟩
    haveI : HasCls K "Even" := ⟨He.cls_ok (c.fact 1 rfl)⟩
    haveI : HasNo K "Even" "noughts" := ⟨He.noat_ok (c.fact 2 rfl)⟩
    haveI : HasNo K "Even" "ones" := ⟨He.noat_ok (c.fact 3 rfl)⟩
    haveI : HasCls K "Quick" := ⟨He.cls_ok (c.fact 4 rfl)⟩
    haveI : HasNo K "Quick" "held" := ⟨He.noat_ok (c.fact 5 rfl)⟩
    haveI : HasCls K "Run" := ⟨He.cls_ok (c.fact 6 rfl)⟩
    haveI : HasNo K "Run" "last" := ⟨He.noat_ok (c.fact 7 rfl)⟩
    haveI : HasNo K "Run" "length" := ⟨He.noat_ok (c.fact 8 rfl)⟩
    haveI : HasCls K "Book" := ⟨He.cls_ok (c.fact 9 rfl)⟩
    haveI : HasNo K "Book" "look" := ⟨He.noat_ok (c.fact 10 rfl)⟩
    haveI : HasNo K "Book" "slots" := ⟨He.noat_ok (c.fact 11 rfl)⟩
    haveI : HasCls K "Mixer" := ⟨He.cls_ok (c.fact 12 rfl)⟩
    haveI : HasNo K "Mixer" "shares" := ⟨He.noat_ok (c.fact 13 rfl)⟩
    haveI : HasCls K "Foreteller" := ⟨He.cls_ok (c.fact 14 rfl)⟩
    haveI : HasNo K "Foreteller" "kinds" := ⟨He.noat_ok (c.fact 15 rfl)⟩
    haveI : HasNo K "Foreteller" "books" := ⟨He.noat_ok (c.fact 16 rfl)⟩
    haveI : HasNo K "Foreteller" "mixer" := ⟨He.noat_ok (c.fact 17 rfl)⟩
    haveI : HasNo K "Foreteller" "ended" := ⟨He.noat_ok (c.fact 18 rfl)⟩
    haveI : HasNo K "Foreteller" "place" := ⟨He.noat_ok (c.fact 19 rfl)⟩
    haveI : HasNo K "Foreteller" "past" := ⟨He.noat_ok (c.fact 20 rfl)⟩
    haveI : HasCls K "Span" := ⟨He.cls_ok (c.fact 21 rfl)⟩
    haveI : HasNo K "Span" "low" := ⟨He.noat_ok (c.fact 22 rfl)⟩
    haveI : HasNo K "Span" "width" := ⟨He.noat_ok (c.fact 23 rfl)⟩
    haveI : HasNo K "Span" "size" := ⟨He.noat_ok (c.fact 24 rfl)⟩
    haveI : HasCls K "Seeker" := ⟨He.cls_ok (c.fact 25 rfl)⟩
    haveI : HasNo K "Seeker" "row" := ⟨He.noat_ok (c.fact 26 rfl)⟩
    haveI : HasNo K "Seeker" "span" := ⟨He.noat_ok (c.fact 27 rfl)⟩
    haveI : HasNo K "Seeker" "number" := ⟨He.noat_ok (c.fact 28 rfl)⟩
    haveI : HasNo K "Seeker" "taken" := ⟨He.noat_ok (c.fact 29 rfl)⟩
    haveI : HasCls K "Store" := ⟨He.cls_ok (c.fact 30 rfl)⟩
    haveI : HasNo K "Store" "kinds" := ⟨He.noat_ok (c.fact 31 rfl)⟩
    haveI : HasNo K "Store" "longest" := ⟨He.noat_ok (c.fact 32 rfl)⟩
    haveI : HasNo K "Store" "pieces" := ⟨He.noat_ok (c.fact 33 rfl)⟩
    haveI : HasTup K "KINDS" [.str "even", .str "quick", .str "run"] := tup_ok (c.ext 0 rfl)
    exact pure_Mixer_mixed K h)
theorem cb_Foreteller_node (KX : K.In h) (G : h.Ns mainGlobals mg) (c : SaysX fa fn xf K) : Cb P w K mg base 1 (He.fAd K ("Foreteller", some "node")) ["self"] [] (sp_Foreteller_node K) :=
  cb_of (T := t_Foreteller_node K) (c.def_ 34 rfl) sc_Foreteller_node (fun vs H Q E h => by
    obtain ⟨_, rfl, _⟩ := h
    rfl) (fun _ _ _ _ _ _ us hl => match us, hl with | [_], _ => rfl)
   (fun cdv A outer s H E hr => by
    have nd := sc_Foreteller_node.nd
    have ho := out_def (cxD_takes (P := P) (w := w) (K := K) (mg := mg) (base := base) (N := N_Foreteller_node) (qual := "Foreteller.node") (st := s_Foreteller_node) (f := He.fAd K ("Foreteller", some "node")) (cdv := cdv) (A := A) (outer := outer) (s := s) (H := H) (E := E))
    have tk := cxD_takes (P := P) (w := w) (K := K) (mg := mg) (base := base) (N := N_Foreteller_node) (qual := "Foreteller.node") (st := s_Foreteller_node) (f := He.fAd K ("Foreteller", some "node")) (cdv := cdv) (A := A) (outer := outer) (s := s) (H := H) (E := E)
    have pz := cxD_passes (P := P) (w := w) (K := K) (mg := mg) (base := base) (N := N_Foreteller_node) (qual := "Foreteller.node") (st := s_Foreteller_node) (f := He.fAd K ("Foreteller", some "node")) (cdv := cdv) (A := A) (outer := outer) (s := s) (H := H) (E := E)
    exact pss_one (ps_ret (pe_fld (pv 0) rfl)))
   (fun vs H Q E h => by
    obtain ⟨_, rfl, h⟩ := h
    haveI : HasCls K "Slot" := ⟨He.cls_ok (c.fact 0 rfl)⟩
    haveI : HasCls K "Even" := ⟨He.cls_ok (c.fact 1 rfl)⟩
    haveI : HasNo K "Even" "noughts" := ⟨He.noat_ok (c.fact 2 rfl)⟩
    haveI : HasNo K "Even" "ones" := ⟨He.noat_ok (c.fact 3 rfl)⟩
    haveI : HasCls K "Quick" := ⟨He.cls_ok (c.fact 4 rfl)⟩
    haveI : HasNo K "Quick" "held" := ⟨He.noat_ok (c.fact 5 rfl)⟩
    haveI : HasCls K "Run" := ⟨He.cls_ok (c.fact 6 rfl)⟩
    haveI : HasNo K "Run" "last" := ⟨He.noat_ok (c.fact 7 rfl)⟩
    haveI : HasNo K "Run" "length" := ⟨He.noat_ok (c.fact 8 rfl)⟩
    haveI : HasCls K "Book" := ⟨He.cls_ok (c.fact 9 rfl)⟩
    haveI : HasNo K "Book" "look" := ⟨He.noat_ok (c.fact 10 rfl)⟩
    haveI : HasNo K "Book" "slots" := ⟨He.noat_ok (c.fact 11 rfl)⟩
    haveI : HasCls K "Mixer" := ⟨He.cls_ok (c.fact 12 rfl)⟩
    haveI : HasNo K "Mixer" "shares" := ⟨He.noat_ok (c.fact 13 rfl)⟩
    haveI : HasCls K "Foreteller" := ⟨He.cls_ok (c.fact 14 rfl)⟩
    haveI : HasNo K "Foreteller" "kinds" := ⟨He.noat_ok (c.fact 15 rfl)⟩
    haveI : HasNo K "Foreteller" "books" := ⟨He.noat_ok (c.fact 16 rfl)⟩
    haveI : HasNo K "Foreteller" "mixer" := ⟨He.noat_ok (c.fact 17 rfl)⟩
    haveI : HasNo K "Foreteller" "ended" := ⟨He.noat_ok (c.fact 18 rfl)⟩
    haveI : HasNo K "Foreteller" "place" := ⟨He.noat_ok (c.fact 19 rfl)⟩
    haveI : HasNo K "Foreteller" "past" := ⟨He.noat_ok (c.fact 20 rfl)⟩
    haveI : HasCls K "Span" := ⟨He.cls_ok (c.fact 21 rfl)⟩
    haveI : HasNo K "Span" "low" := ⟨He.noat_ok (c.fact 22 rfl)⟩
    haveI : HasNo K "Span" "width" := ⟨He.noat_ok (c.fact 23 rfl)⟩
    haveI : HasNo K "Span" "size" := ⟨He.noat_ok (c.fact 24 rfl)⟩
    haveI : HasCls K "Seeker" := ⟨He.cls_ok (c.fact 25 rfl)⟩
    haveI : HasNo K "Seeker" "row" := ⟨He.noat_ok (c.fact 26 rfl)⟩
    haveI : HasNo K "Seeker" "span" := ⟨He.noat_ok (c.fact 27 rfl)⟩
    haveI : HasNo K "Seeker" "number" := ⟨He.noat_ok (c.fact 28 rfl)⟩
    haveI : HasNo K "Seeker" "taken" := ⟨He.noat_ok (c.fact 29 rfl)⟩
    haveI : HasCls K "Store" := ⟨He.cls_ok (c.fact 30 rfl)⟩
    haveI : HasNo K "Store" "kinds" := ⟨He.noat_ok (c.fact 31 rfl)⟩
    haveI : HasNo K "Store" "longest" := ⟨He.noat_ok (c.fact 32 rfl)⟩
    haveI : HasNo K "Store" "pieces" := ⟨He.noat_ok (c.fact 33 rfl)⟩
    haveI : HasTup K "KINDS" [.str "even", .str "quick", .str "run"] := tup_ok (c.ext 0 rfl)
    exact pure_Foreteller_node K h)
theorem cb_Foreteller_signs (KX : K.In h) (G : h.Ns mainGlobals mg) (c : SaysX fa fn xf K) : Cb P w K mg base 1 (He.fAd K ("Foreteller", some "signs")) ["self"] [] (sp_Foreteller_signs K) :=
  cb_of (T := t_Foreteller_signs K) (c.def_ 35 rfl) sc_Foreteller_signs (fun vs H Q E h => by
    obtain ⟨_, rfl, _⟩ := h
    rfl) (fun _ _ _ _ _ _ us hl => match us, hl with | [_], _ => rfl)
   (fun cdv A outer s H E hr => by
    have nd := sc_Foreteller_signs.nd
    have ho := out_def (cxD_takes (P := P) (w := w) (K := K) (mg := mg) (base := base) (N := N_Foreteller_signs) (qual := "Foreteller.signs") (st := s_Foreteller_signs) (f := He.fAd K ("Foreteller", some "signs")) (cdv := cdv) (A := A) (outer := outer) (s := s) (H := H) (E := E))
    have tk := cxD_takes (P := P) (w := w) (K := K) (mg := mg) (base := base) (N := N_Foreteller_signs) (qual := "Foreteller.signs") (st := s_Foreteller_signs) (f := He.fAd K ("Foreteller", some "signs")) (cdv := cdv) (A := A) (outer := outer) (s := s) (H := H) (E := E)
    have pz := cxD_passes (P := P) (w := w) (K := K) (mg := mg) (base := base) (N := N_Foreteller_signs) (qual := "Foreteller.signs") (st := s_Foreteller_signs) (f := He.fAd K ("Foreteller", some "signs")) (cdv := cdv) (A := A) (outer := outer) (s := s) (H := H) (E := E)
    exact pss_one (ps_ret (pe_callTy c_list (by rfl) (He.free_ok KX G (c.fact 44 rfl)) (by decide +kernel) (pa_cons (pe_fld (pv 0) rfl) (pa_nil)))))
   (fun vs H Q E h => by
    obtain ⟨_, rfl, h⟩ := h
    haveI : HasCls K "Slot" := ⟨He.cls_ok (c.fact 0 rfl)⟩
    haveI : HasCls K "Even" := ⟨He.cls_ok (c.fact 1 rfl)⟩
    haveI : HasNo K "Even" "noughts" := ⟨He.noat_ok (c.fact 2 rfl)⟩
    haveI : HasNo K "Even" "ones" := ⟨He.noat_ok (c.fact 3 rfl)⟩
    haveI : HasCls K "Quick" := ⟨He.cls_ok (c.fact 4 rfl)⟩
    haveI : HasNo K "Quick" "held" := ⟨He.noat_ok (c.fact 5 rfl)⟩
    haveI : HasCls K "Run" := ⟨He.cls_ok (c.fact 6 rfl)⟩
    haveI : HasNo K "Run" "last" := ⟨He.noat_ok (c.fact 7 rfl)⟩
    haveI : HasNo K "Run" "length" := ⟨He.noat_ok (c.fact 8 rfl)⟩
    haveI : HasCls K "Book" := ⟨He.cls_ok (c.fact 9 rfl)⟩
    haveI : HasNo K "Book" "look" := ⟨He.noat_ok (c.fact 10 rfl)⟩
    haveI : HasNo K "Book" "slots" := ⟨He.noat_ok (c.fact 11 rfl)⟩
    haveI : HasCls K "Mixer" := ⟨He.cls_ok (c.fact 12 rfl)⟩
    haveI : HasNo K "Mixer" "shares" := ⟨He.noat_ok (c.fact 13 rfl)⟩
    haveI : HasCls K "Foreteller" := ⟨He.cls_ok (c.fact 14 rfl)⟩
    haveI : HasNo K "Foreteller" "kinds" := ⟨He.noat_ok (c.fact 15 rfl)⟩
    haveI : HasNo K "Foreteller" "books" := ⟨He.noat_ok (c.fact 16 rfl)⟩
    haveI : HasNo K "Foreteller" "mixer" := ⟨He.noat_ok (c.fact 17 rfl)⟩
    haveI : HasNo K "Foreteller" "ended" := ⟨He.noat_ok (c.fact 18 rfl)⟩
    haveI : HasNo K "Foreteller" "place" := ⟨He.noat_ok (c.fact 19 rfl)⟩
    haveI : HasNo K "Foreteller" "past" := ⟨He.noat_ok (c.fact 20 rfl)⟩
    haveI : HasCls K "Span" := ⟨He.cls_ok (c.fact 21 rfl)⟩
    haveI : HasNo K "Span" "low" := ⟨He.noat_ok (c.fact 22 rfl)⟩
    haveI : HasNo K "Span" "width" := ⟨He.noat_ok (c.fact 23 rfl)⟩
    haveI : HasNo K "Span" "size" := ⟨He.noat_ok (c.fact 24 rfl)⟩
    haveI : HasCls K "Seeker" := ⟨He.cls_ok (c.fact 25 rfl)⟩
    haveI : HasNo K "Seeker" "row" := ⟨He.noat_ok (c.fact 26 rfl)⟩
    haveI : HasNo K "Seeker" "span" := ⟨He.noat_ok (c.fact 27 rfl)⟩
    haveI : HasNo K "Seeker" "number" := ⟨He.noat_ok (c.fact 28 rfl)⟩
    haveI : HasNo K "Seeker" "taken" := ⟨He.noat_ok (c.fact 29 rfl)⟩
    haveI : HasCls K "Store" := ⟨He.cls_ok (c.fact 30 rfl)⟩
    haveI : HasNo K "Store" "kinds" := ⟨He.noat_ok (c.fact 31 rfl)⟩
    haveI : HasNo K "Store" "longest" := ⟨He.noat_ok (c.fact 32 rfl)⟩
    haveI : HasNo K "Store" "pieces" := ⟨He.noat_ok (c.fact 33 rfl)⟩
    haveI : HasTup K "KINDS" [.str "even", .str "quick", .str "run"] := tup_ok (c.ext 0 rfl)
    exact pure_Foreteller_signs K h)
theorem cb_Foreteller_go (KX : K.In h) (G : h.Ns mainGlobals mg) (c : SaysX fa fn xf K) : Cb P w K mg base 1 (He.fAd K ("Foreteller", some "go")) ["self", "bit"] [] (sp_Foreteller_go K) :=
  cb_of (T := t_Foreteller_go K) (c.def_ 37 rfl) sc_Foreteller_go (fun vs H Q E h => by
    obtain ⟨_, _, rfl, _⟩ := h
    rfl) (fun _ _ _ _ _ _ us hl => match us, hl with | [_, _], _ => rfl)
   (fun cdv A outer s H E hr => by
    have nd := sc_Foreteller_go.nd
    have ho := out_def (cxD_takes (P := P) (w := w) (K := K) (mg := mg) (base := base) (N := N_Foreteller_go) (qual := "Foreteller.go") (st := s_Foreteller_go) (f := He.fAd K ("Foreteller", some "go")) (cdv := cdv) (A := A) (outer := outer) (s := s) (H := H) (E := E))
    have tk := cxD_takes (P := P) (w := w) (K := K) (mg := mg) (base := base) (N := N_Foreteller_go) (qual := "Foreteller.go") (st := s_Foreteller_go) (f := He.fAd K ("Foreteller", some "go")) (cdv := cdv) (A := A) (outer := outer) (s := s) (H := H) (E := E)
    have pz := cxD_passes (P := P) (w := w) (K := K) (mg := mg) (base := base) (N := N_Foreteller_go) (qual := "Foreteller.go") (st := s_Foreteller_go) (f := He.fAd K ("Foreteller", some "go")) (cdv := cdv) (A := A) (outer := outer) (s := s) (H := H) (E := E)
    exact pss_one (ps_if (pt_cmpR o_gt (pe_fld (pv 0) rfl) (pe_int) (nomark _)) (pss_cons (ps_fld (pv 0) (pe_op o_plus (pe_op o_times (pe_int) (pe_fld (pv 0) rfl)) (pv 1)) rfl)
       (pss_one (ps_if (pt_cmpR o_gt (pe_fld (pv 0) rfl) (pe_int) (nomark _)) (pss_cons (ps_expr (pe_bm PySem.F.plainAttrs_list PySem.F.slot_list_append PySem.F.type_list_append mt_append (pe_fld (pv 0) rfl) (pa_cons (pe_op o_minus (pe_fld (pv 0) rfl) (pe_int)) (pa_nil))))
       (pss_one (ps_fld (pv 0) (pe_int) rfl))) (pss_nil)))) (pss_one (ps_if (pt_cmpR (o_same hr.units) (pv 1) (pe_int) (nomark _)) (pss_one (ps_fld (pv 0) (pe_int) rfl)) (pss_one (ps_fld (pv 0) (pe_lst (pa_nil)) rfl))))))
   (fun vs H Q E h => by
    obtain ⟨_, _, rfl, h⟩ := h
    haveI : HasCls K "Slot" := ⟨He.cls_ok (c.fact 0 rfl)⟩
    haveI : HasCls K "Even" := ⟨He.cls_ok (c.fact 1 rfl)⟩
    haveI : HasNo K "Even" "noughts" := ⟨He.noat_ok (c.fact 2 rfl)⟩
    haveI : HasNo K "Even" "ones" := ⟨He.noat_ok (c.fact 3 rfl)⟩
    haveI : HasCls K "Quick" := ⟨He.cls_ok (c.fact 4 rfl)⟩
    haveI : HasNo K "Quick" "held" := ⟨He.noat_ok (c.fact 5 rfl)⟩
    haveI : HasCls K "Run" := ⟨He.cls_ok (c.fact 6 rfl)⟩
    haveI : HasNo K "Run" "last" := ⟨He.noat_ok (c.fact 7 rfl)⟩
    haveI : HasNo K "Run" "length" := ⟨He.noat_ok (c.fact 8 rfl)⟩
    haveI : HasCls K "Book" := ⟨He.cls_ok (c.fact 9 rfl)⟩
    haveI : HasNo K "Book" "look" := ⟨He.noat_ok (c.fact 10 rfl)⟩
    haveI : HasNo K "Book" "slots" := ⟨He.noat_ok (c.fact 11 rfl)⟩
    haveI : HasCls K "Mixer" := ⟨He.cls_ok (c.fact 12 rfl)⟩
    haveI : HasNo K "Mixer" "shares" := ⟨He.noat_ok (c.fact 13 rfl)⟩
    haveI : HasCls K "Foreteller" := ⟨He.cls_ok (c.fact 14 rfl)⟩
    haveI : HasNo K "Foreteller" "kinds" := ⟨He.noat_ok (c.fact 15 rfl)⟩
    haveI : HasNo K "Foreteller" "books" := ⟨He.noat_ok (c.fact 16 rfl)⟩
    haveI : HasNo K "Foreteller" "mixer" := ⟨He.noat_ok (c.fact 17 rfl)⟩
    haveI : HasNo K "Foreteller" "ended" := ⟨He.noat_ok (c.fact 18 rfl)⟩
    haveI : HasNo K "Foreteller" "place" := ⟨He.noat_ok (c.fact 19 rfl)⟩
    haveI : HasNo K "Foreteller" "past" := ⟨He.noat_ok (c.fact 20 rfl)⟩
    haveI : HasCls K "Span" := ⟨He.cls_ok (c.fact 21 rfl)⟩
    haveI : HasNo K "Span" "low" := ⟨He.noat_ok (c.fact 22 rfl)⟩
    haveI : HasNo K "Span" "width" := ⟨He.noat_ok (c.fact 23 rfl)⟩
    haveI : HasNo K "Span" "size" := ⟨He.noat_ok (c.fact 24 rfl)⟩
    haveI : HasCls K "Seeker" := ⟨He.cls_ok (c.fact 25 rfl)⟩
    haveI : HasNo K "Seeker" "row" := ⟨He.noat_ok (c.fact 26 rfl)⟩
    haveI : HasNo K "Seeker" "span" := ⟨He.noat_ok (c.fact 27 rfl)⟩
    haveI : HasNo K "Seeker" "number" := ⟨He.noat_ok (c.fact 28 rfl)⟩
    haveI : HasNo K "Seeker" "taken" := ⟨He.noat_ok (c.fact 29 rfl)⟩
    haveI : HasCls K "Store" := ⟨He.cls_ok (c.fact 30 rfl)⟩
    haveI : HasNo K "Store" "kinds" := ⟨He.noat_ok (c.fact 31 rfl)⟩
    haveI : HasNo K "Store" "longest" := ⟨He.noat_ok (c.fact 32 rfl)⟩
    haveI : HasNo K "Store" "pieces" := ⟨He.noat_ok (c.fact 33 rfl)⟩
    haveI : HasTup K "KINDS" [.str "even", .str "quick", .str "run"] := tup_ok (c.ext 0 rfl)
    exact pure_Foreteller_go K h)
theorem cb_bits_of (KX : K.In h) (G : h.Ns mainGlobals mg) (c : SaysX fa fn xf K) : Cb P w K mg base 1 (He.fAd K ("bits_of", none)) ["sign"] [] (sp_bits_of K) :=
  cb_of (T := t_bits_of K) (c.def_ 38 rfl) sc_bits_of (fun vs H Q E h => by
    obtain ⟨_, rfl, _⟩ := h
    rfl) (fun _ _ _ _ _ _ us hl => match us, hl with | [_], _ => rfl)
   (fun cdv A outer s H E hr => by
    have nd := sc_bits_of.nd
    have ho := out_def (cxD_takes (P := P) (w := w) (K := K) (mg := mg) (base := base) (N := N_bits_of) (qual := "bits_of") (st := s_bits_of) (f := He.fAd K ("bits_of", none)) (cdv := cdv) (A := A) (outer := outer) (s := s) (H := H) (E := E))
    have tk := cxD_takes (P := P) (w := w) (K := K) (mg := mg) (base := base) (N := N_bits_of) (qual := "bits_of") (st := s_bits_of) (f := He.fAd K ("bits_of", none)) (cdv := cdv) (A := A) (outer := outer) (s := s) (H := H) (E := E)
    have pz := cxD_passes (P := P) (w := w) (K := K) (mg := mg) (base := base) (N := N_bits_of) (qual := "bits_of") (st := s_bits_of) (f := He.fAd K ("bits_of", none)) (cdv := cdv) (A := A) (outer := outer) (s := s) (H := H) (E := E)
    exact pss_one (ps_ret (pe_lc (own := [("k", 1)]) (g := gName 1) (tt := tYes) rfl nd (pi_range3 (by rfl) (He.free_ok KX G (c.fact 45 rfl)) (pa_cons (pe_int) (pa_cons (pe_un o_neg (pe_int)) (pa_cons (pe_un o_neg (pe_int)) (pa_nil))))) (blkOk_by (N := N_bits_of) (sc := defScope s_bits_of) (by decide +kernel)) (fun _ _ _ _ _ => pg_name (i := 1) nd rfl (by first | exact Or.inl rfl | exact Or.inr rfl)) (fun _ _ _ _ _ => pts_nil) (fun _ _ _ _ _ => pe_op o_mask (pe_op o_rsh (pv 0) (pv 1)) (pe_int)))))
   (fun vs H Q E h => by
    obtain ⟨_, rfl, h⟩ := h
    haveI : HasCls K "Slot" := ⟨He.cls_ok (c.fact 0 rfl)⟩
    haveI : HasCls K "Even" := ⟨He.cls_ok (c.fact 1 rfl)⟩
    haveI : HasNo K "Even" "noughts" := ⟨He.noat_ok (c.fact 2 rfl)⟩
    haveI : HasNo K "Even" "ones" := ⟨He.noat_ok (c.fact 3 rfl)⟩
    haveI : HasCls K "Quick" := ⟨He.cls_ok (c.fact 4 rfl)⟩
    haveI : HasNo K "Quick" "held" := ⟨He.noat_ok (c.fact 5 rfl)⟩
    haveI : HasCls K "Run" := ⟨He.cls_ok (c.fact 6 rfl)⟩
    haveI : HasNo K "Run" "last" := ⟨He.noat_ok (c.fact 7 rfl)⟩
    haveI : HasNo K "Run" "length" := ⟨He.noat_ok (c.fact 8 rfl)⟩
    haveI : HasCls K "Book" := ⟨He.cls_ok (c.fact 9 rfl)⟩
    haveI : HasNo K "Book" "look" := ⟨He.noat_ok (c.fact 10 rfl)⟩
    haveI : HasNo K "Book" "slots" := ⟨He.noat_ok (c.fact 11 rfl)⟩
    haveI : HasCls K "Mixer" := ⟨He.cls_ok (c.fact 12 rfl)⟩
    haveI : HasNo K "Mixer" "shares" := ⟨He.noat_ok (c.fact 13 rfl)⟩
    haveI : HasCls K "Foreteller" := ⟨He.cls_ok (c.fact 14 rfl)⟩
    haveI : HasNo K "Foreteller" "kinds" := ⟨He.noat_ok (c.fact 15 rfl)⟩
    haveI : HasNo K "Foreteller" "books" := ⟨He.noat_ok (c.fact 16 rfl)⟩
    haveI : HasNo K "Foreteller" "mixer" := ⟨He.noat_ok (c.fact 17 rfl)⟩
    haveI : HasNo K "Foreteller" "ended" := ⟨He.noat_ok (c.fact 18 rfl)⟩
    haveI : HasNo K "Foreteller" "place" := ⟨He.noat_ok (c.fact 19 rfl)⟩
    haveI : HasNo K "Foreteller" "past" := ⟨He.noat_ok (c.fact 20 rfl)⟩
    haveI : HasCls K "Span" := ⟨He.cls_ok (c.fact 21 rfl)⟩
    haveI : HasNo K "Span" "low" := ⟨He.noat_ok (c.fact 22 rfl)⟩
    haveI : HasNo K "Span" "width" := ⟨He.noat_ok (c.fact 23 rfl)⟩
    haveI : HasNo K "Span" "size" := ⟨He.noat_ok (c.fact 24 rfl)⟩
    haveI : HasCls K "Seeker" := ⟨He.cls_ok (c.fact 25 rfl)⟩
    haveI : HasNo K "Seeker" "row" := ⟨He.noat_ok (c.fact 26 rfl)⟩
    haveI : HasNo K "Seeker" "span" := ⟨He.noat_ok (c.fact 27 rfl)⟩
    haveI : HasNo K "Seeker" "number" := ⟨He.noat_ok (c.fact 28 rfl)⟩
    haveI : HasNo K "Seeker" "taken" := ⟨He.noat_ok (c.fact 29 rfl)⟩
    haveI : HasCls K "Store" := ⟨He.cls_ok (c.fact 30 rfl)⟩
    haveI : HasNo K "Store" "kinds" := ⟨He.noat_ok (c.fact 31 rfl)⟩
    haveI : HasNo K "Store" "longest" := ⟨He.noat_ok (c.fact 32 rfl)⟩
    haveI : HasNo K "Store" "pieces" := ⟨He.noat_ok (c.fact 33 rfl)⟩
    haveI : HasTup K "KINDS" [.str "even", .str "quick", .str "run"] := tup_ok (c.ext 0 rfl)
    exact pure_bits_of K h)
theorem cb_bytes_of_number (KX : K.In h) (G : h.Ns mainGlobals mg) (c : SaysX fa fn xf K) : Cb P w K mg base 1 (He.fAd K ("bytes_of_number", none)) ["number", "size"] [] (sp_bytes_of_number K) :=
  cb_of (T := t_bytes_of_number K) (c.def_ 40 rfl) sc_bytes_of_number (fun vs H Q E h => by
    obtain ⟨_, _, rfl, _⟩ := h
    rfl) (fun _ _ _ _ _ _ us hl => match us, hl with | [_, _], _ => rfl)
   (fun cdv A outer s H E hr => by
    have nd := sc_bytes_of_number.nd
    have ho := out_def (cxD_takes (P := P) (w := w) (K := K) (mg := mg) (base := base) (N := N_bytes_of_number) (qual := "bytes_of_number") (st := s_bytes_of_number) (f := He.fAd K ("bytes_of_number", none)) (cdv := cdv) (A := A) (outer := outer) (s := s) (H := H) (E := E))
    have tk := cxD_takes (P := P) (w := w) (K := K) (mg := mg) (base := base) (N := N_bytes_of_number) (qual := "bytes_of_number") (st := s_bytes_of_number) (f := He.fAd K ("bytes_of_number", none)) (cdv := cdv) (A := A) (outer := outer) (s := s) (H := H) (E := E)
    have pz := cxD_passes (P := P) (w := w) (K := K) (mg := mg) (base := base) (N := N_bytes_of_number) (qual := "bytes_of_number") (st := s_bytes_of_number) (f := He.fAd K ("bytes_of_number", none)) (cdv := cdv) (A := A) (outer := outer) (s := s) (H := H) (E := E)
    exact pss_cons (ps_set (i := 2) nd rfl (by first | exact Or.inl rfl | exact Or.inr rfl) (pe_lst (pa_nil)))
       (pss_cons (ps_for pz rfl (pi_range1 (by rfl) (He.free_ok KX G (c.fact 45 rfl)) (pa_cons (pv 1) (pa_nil))) (pg_name (i := 3) nd rfl (by first | exact Or.inl rfl | exact Or.inr rfl)) (pss_cons (ps_expr (pe_bm PySem.F.plainAttrs_list PySem.F.slot_list_append PySem.F.type_list_append mt_append (pv 2) (pa_cons (pe_op o_mask (pv 0) (pe_int)) (pa_nil))))
       (pss_one (ps_set (i := 0) nd rfl (by first | exact Or.inl rfl | exact Or.inr rfl) (pe_op o_rsh (pv 0) (pe_int))))))
       (pss_cons (ps_expr (pe_bm0 PySem.F.plainAttrs_list PySem.F.slot_list_reverse PySem.F.type_list_reverse mt_reverse (pv 2)))
       (pss_one (ps_ret (pv 2))))))
   (fun vs H Q E h => by
    obtain ⟨_, _, rfl, h⟩ := h
    haveI : HasCls K "Slot" := ⟨He.cls_ok (c.fact 0 rfl)⟩
    haveI : HasCls K "Even" := ⟨He.cls_ok (c.fact 1 rfl)⟩
    haveI : HasNo K "Even" "noughts" := ⟨He.noat_ok (c.fact 2 rfl)⟩
    haveI : HasNo K "Even" "ones" := ⟨He.noat_ok (c.fact 3 rfl)⟩
    haveI : HasCls K "Quick" := ⟨He.cls_ok (c.fact 4 rfl)⟩
    haveI : HasNo K "Quick" "held" := ⟨He.noat_ok (c.fact 5 rfl)⟩
    haveI : HasCls K "Run" := ⟨He.cls_ok (c.fact 6 rfl)⟩
    haveI : HasNo K "Run" "last" := ⟨He.noat_ok (c.fact 7 rfl)⟩
    haveI : HasNo K "Run" "length" := ⟨He.noat_ok (c.fact 8 rfl)⟩
    haveI : HasCls K "Book" := ⟨He.cls_ok (c.fact 9 rfl)⟩
    haveI : HasNo K "Book" "look" := ⟨He.noat_ok (c.fact 10 rfl)⟩
    haveI : HasNo K "Book" "slots" := ⟨He.noat_ok (c.fact 11 rfl)⟩
    haveI : HasCls K "Mixer" := ⟨He.cls_ok (c.fact 12 rfl)⟩
    haveI : HasNo K "Mixer" "shares" := ⟨He.noat_ok (c.fact 13 rfl)⟩
    haveI : HasCls K "Foreteller" := ⟨He.cls_ok (c.fact 14 rfl)⟩
    haveI : HasNo K "Foreteller" "kinds" := ⟨He.noat_ok (c.fact 15 rfl)⟩
    haveI : HasNo K "Foreteller" "books" := ⟨He.noat_ok (c.fact 16 rfl)⟩
    haveI : HasNo K "Foreteller" "mixer" := ⟨He.noat_ok (c.fact 17 rfl)⟩
    haveI : HasNo K "Foreteller" "ended" := ⟨He.noat_ok (c.fact 18 rfl)⟩
    haveI : HasNo K "Foreteller" "place" := ⟨He.noat_ok (c.fact 19 rfl)⟩
    haveI : HasNo K "Foreteller" "past" := ⟨He.noat_ok (c.fact 20 rfl)⟩
    haveI : HasCls K "Span" := ⟨He.cls_ok (c.fact 21 rfl)⟩
    haveI : HasNo K "Span" "low" := ⟨He.noat_ok (c.fact 22 rfl)⟩
    haveI : HasNo K "Span" "width" := ⟨He.noat_ok (c.fact 23 rfl)⟩
    haveI : HasNo K "Span" "size" := ⟨He.noat_ok (c.fact 24 rfl)⟩
    haveI : HasCls K "Seeker" := ⟨He.cls_ok (c.fact 25 rfl)⟩
    haveI : HasNo K "Seeker" "row" := ⟨He.noat_ok (c.fact 26 rfl)⟩
    haveI : HasNo K "Seeker" "span" := ⟨He.noat_ok (c.fact 27 rfl)⟩
    haveI : HasNo K "Seeker" "number" := ⟨He.noat_ok (c.fact 28 rfl)⟩
    haveI : HasNo K "Seeker" "taken" := ⟨He.noat_ok (c.fact 29 rfl)⟩
    haveI : HasCls K "Store" := ⟨He.cls_ok (c.fact 30 rfl)⟩
    haveI : HasNo K "Store" "kinds" := ⟨He.noat_ok (c.fact 31 rfl)⟩
    haveI : HasNo K "Store" "longest" := ⟨He.noat_ok (c.fact 32 rfl)⟩
    haveI : HasNo K "Store" "pieces" := ⟨He.noat_ok (c.fact 33 rfl)⟩
    haveI : HasTup K "KINDS" [.str "even", .str "quick", .str "run"] := tup_ok (c.ext 0 rfl)
    exact pure_bytes_of_number K h)
theorem cb_Span_init (KX : K.In h) (G : h.Ns mainGlobals mg) (c : SaysX fa fn xf K) : Cb P w K mg base 1 (He.fAd K ("Span", some "__init__")) ["self"] [] (sp_Span_init K) :=
  cb_of (T := t_Span_init K) (c.def_ 41 rfl) sc_Span_init (fun vs H Q E h => by
    obtain ⟨_, rfl, _⟩ := h
    rfl) (fun _ _ _ _ _ _ us hl => match us, hl with | [_], _ => rfl)
   (fun cdv A outer s H E hr => by
    have nd := sc_Span_init.nd
    have ho := out_def (cxD_takes (P := P) (w := w) (K := K) (mg := mg) (base := base) (N := N_Span_init) (qual := "Span.__init__") (st := s_Span_init) (f := He.fAd K ("Span", some "__init__")) (cdv := cdv) (A := A) (outer := outer) (s := s) (H := H) (E := E))
    have tk := cxD_takes (P := P) (w := w) (K := K) (mg := mg) (base := base) (N := N_Span_init) (qual := "Span.__init__") (st := s_Span_init) (f := He.fAd K ("Span", some "__init__")) (cdv := cdv) (A := A) (outer := outer) (s := s) (H := H) (E := E)
    have pz := cxD_passes (P := P) (w := w) (K := K) (mg := mg) (base := base) (N := N_Span_init) (qual := "Span.__init__") (st := s_Span_init) (f := He.fAd K ("Span", some "__init__")) (cdv := cdv) (A := A) (outer := outer) (s := s) (H := H) (E := E)
    exact pss_cons (ps_fld (pv 0) (pe_int) rfl)
       (pss_cons (ps_fld (pv 0) (pe_gint (He.int_ok KX G (c.fact 46 rfl))) rfl)
       (pss_one (ps_fld (pv 0) (pe_int) rfl))))
   (fun vs H Q E h => by
    obtain ⟨_, rfl, h⟩ := h
    haveI : HasCls K "Slot" := ⟨He.cls_ok (c.fact 0 rfl)⟩
    haveI : HasCls K "Even" := ⟨He.cls_ok (c.fact 1 rfl)⟩
    haveI : HasNo K "Even" "noughts" := ⟨He.noat_ok (c.fact 2 rfl)⟩
    haveI : HasNo K "Even" "ones" := ⟨He.noat_ok (c.fact 3 rfl)⟩
    haveI : HasCls K "Quick" := ⟨He.cls_ok (c.fact 4 rfl)⟩
    haveI : HasNo K "Quick" "held" := ⟨He.noat_ok (c.fact 5 rfl)⟩
    haveI : HasCls K "Run" := ⟨He.cls_ok (c.fact 6 rfl)⟩
    haveI : HasNo K "Run" "last" := ⟨He.noat_ok (c.fact 7 rfl)⟩
    haveI : HasNo K "Run" "length" := ⟨He.noat_ok (c.fact 8 rfl)⟩
    haveI : HasCls K "Book" := ⟨He.cls_ok (c.fact 9 rfl)⟩
    haveI : HasNo K "Book" "look" := ⟨He.noat_ok (c.fact 10 rfl)⟩
    haveI : HasNo K "Book" "slots" := ⟨He.noat_ok (c.fact 11 rfl)⟩
    haveI : HasCls K "Mixer" := ⟨He.cls_ok (c.fact 12 rfl)⟩
    haveI : HasNo K "Mixer" "shares" := ⟨He.noat_ok (c.fact 13 rfl)⟩
    haveI : HasCls K "Foreteller" := ⟨He.cls_ok (c.fact 14 rfl)⟩
    haveI : HasNo K "Foreteller" "kinds" := ⟨He.noat_ok (c.fact 15 rfl)⟩
    haveI : HasNo K "Foreteller" "books" := ⟨He.noat_ok (c.fact 16 rfl)⟩
    haveI : HasNo K "Foreteller" "mixer" := ⟨He.noat_ok (c.fact 17 rfl)⟩
    haveI : HasNo K "Foreteller" "ended" := ⟨He.noat_ok (c.fact 18 rfl)⟩
    haveI : HasNo K "Foreteller" "place" := ⟨He.noat_ok (c.fact 19 rfl)⟩
    haveI : HasNo K "Foreteller" "past" := ⟨He.noat_ok (c.fact 20 rfl)⟩
    haveI : HasCls K "Span" := ⟨He.cls_ok (c.fact 21 rfl)⟩
    haveI : HasNo K "Span" "low" := ⟨He.noat_ok (c.fact 22 rfl)⟩
    haveI : HasNo K "Span" "width" := ⟨He.noat_ok (c.fact 23 rfl)⟩
    haveI : HasNo K "Span" "size" := ⟨He.noat_ok (c.fact 24 rfl)⟩
    haveI : HasCls K "Seeker" := ⟨He.cls_ok (c.fact 25 rfl)⟩
    haveI : HasNo K "Seeker" "row" := ⟨He.noat_ok (c.fact 26 rfl)⟩
    haveI : HasNo K "Seeker" "span" := ⟨He.noat_ok (c.fact 27 rfl)⟩
    haveI : HasNo K "Seeker" "number" := ⟨He.noat_ok (c.fact 28 rfl)⟩
    haveI : HasNo K "Seeker" "taken" := ⟨He.noat_ok (c.fact 29 rfl)⟩
    haveI : HasCls K "Store" := ⟨He.cls_ok (c.fact 30 rfl)⟩
    haveI : HasNo K "Store" "kinds" := ⟨He.noat_ok (c.fact 31 rfl)⟩
    haveI : HasNo K "Store" "longest" := ⟨He.noat_ok (c.fact 32 rfl)⟩
    haveI : HasNo K "Store" "pieces" := ⟨He.noat_ok (c.fact 33 rfl)⟩
    haveI : HasTup K "KINDS" [.str "even", .str "quick", .str "run"] := tup_ok (c.ext 0 rfl)
    exact pure_Span_init K h)
theorem cb_Span_ends (KX : K.In h) (G : h.Ns mainGlobals mg) (c : SaysX fa fn xf K) : Cb P w K mg base 1 (He.fAd K ("Span", some "ends")) ["self"] [] (sp_Span_ends K) :=
  cb_of (T := t_Span_ends K) (c.def_ 42 rfl) sc_Span_ends (fun vs H Q E h => by
    obtain ⟨_, rfl, _⟩ := h
    rfl) (fun _ _ _ _ _ _ us hl => match us, hl with | [_], _ => rfl)
   (fun cdv A outer s H E hr => by
    have nd := sc_Span_ends.nd
    have ho := out_def (cxD_takes (P := P) (w := w) (K := K) (mg := mg) (base := base) (N := N_Span_ends) (qual := "Span.ends") (st := s_Span_ends) (f := He.fAd K ("Span", some "ends")) (cdv := cdv) (A := A) (outer := outer) (s := s) (H := H) (E := E))
    have tk := cxD_takes (P := P) (w := w) (K := K) (mg := mg) (base := base) (N := N_Span_ends) (qual := "Span.ends") (st := s_Span_ends) (f := He.fAd K ("Span", some "ends")) (cdv := cdv) (A := A) (outer := outer) (s := s) (H := H) (E := E)
    have pz := cxD_passes (P := P) (w := w) (K := K) (mg := mg) (base := base) (N := N_Span_ends) (qual := "Span.ends") (st := s_Span_ends) (f := He.fAd K ("Span", some "ends")) (cdv := cdv) (A := A) (outer := outer) (s := s) (H := H) (E := E)
    exact pss_one (ps_ret (pe_tup (pa_cons (pe_fld (pv 0) rfl) (pa_cons (pe_fld (pv 0) rfl) (pa_cons (pe_fld (pv 0) rfl) (pa_nil)))))))
   (fun vs H Q E h => by
    obtain ⟨_, rfl, h⟩ := h
    haveI : HasCls K "Slot" := ⟨He.cls_ok (c.fact 0 rfl)⟩
    haveI : HasCls K "Even" := ⟨He.cls_ok (c.fact 1 rfl)⟩
    haveI : HasNo K "Even" "noughts" := ⟨He.noat_ok (c.fact 2 rfl)⟩
    haveI : HasNo K "Even" "ones" := ⟨He.noat_ok (c.fact 3 rfl)⟩
    haveI : HasCls K "Quick" := ⟨He.cls_ok (c.fact 4 rfl)⟩
    haveI : HasNo K "Quick" "held" := ⟨He.noat_ok (c.fact 5 rfl)⟩
    haveI : HasCls K "Run" := ⟨He.cls_ok (c.fact 6 rfl)⟩
    haveI : HasNo K "Run" "last" := ⟨He.noat_ok (c.fact 7 rfl)⟩
    haveI : HasNo K "Run" "length" := ⟨He.noat_ok (c.fact 8 rfl)⟩
    haveI : HasCls K "Book" := ⟨He.cls_ok (c.fact 9 rfl)⟩
    haveI : HasNo K "Book" "look" := ⟨He.noat_ok (c.fact 10 rfl)⟩
    haveI : HasNo K "Book" "slots" := ⟨He.noat_ok (c.fact 11 rfl)⟩
    haveI : HasCls K "Mixer" := ⟨He.cls_ok (c.fact 12 rfl)⟩
    haveI : HasNo K "Mixer" "shares" := ⟨He.noat_ok (c.fact 13 rfl)⟩
    haveI : HasCls K "Foreteller" := ⟨He.cls_ok (c.fact 14 rfl)⟩
    haveI : HasNo K "Foreteller" "kinds" := ⟨He.noat_ok (c.fact 15 rfl)⟩
    haveI : HasNo K "Foreteller" "books" := ⟨He.noat_ok (c.fact 16 rfl)⟩
    haveI : HasNo K "Foreteller" "mixer" := ⟨He.noat_ok (c.fact 17 rfl)⟩
    haveI : HasNo K "Foreteller" "ended" := ⟨He.noat_ok (c.fact 18 rfl)⟩
    haveI : HasNo K "Foreteller" "place" := ⟨He.noat_ok (c.fact 19 rfl)⟩
    haveI : HasNo K "Foreteller" "past" := ⟨He.noat_ok (c.fact 20 rfl)⟩
    haveI : HasCls K "Span" := ⟨He.cls_ok (c.fact 21 rfl)⟩
    haveI : HasNo K "Span" "low" := ⟨He.noat_ok (c.fact 22 rfl)⟩
    haveI : HasNo K "Span" "width" := ⟨He.noat_ok (c.fact 23 rfl)⟩
    haveI : HasNo K "Span" "size" := ⟨He.noat_ok (c.fact 24 rfl)⟩
    haveI : HasCls K "Seeker" := ⟨He.cls_ok (c.fact 25 rfl)⟩
    haveI : HasNo K "Seeker" "row" := ⟨He.noat_ok (c.fact 26 rfl)⟩
    haveI : HasNo K "Seeker" "span" := ⟨He.noat_ok (c.fact 27 rfl)⟩
    haveI : HasNo K "Seeker" "number" := ⟨He.noat_ok (c.fact 28 rfl)⟩
    haveI : HasNo K "Seeker" "taken" := ⟨He.noat_ok (c.fact 29 rfl)⟩
    haveI : HasCls K "Store" := ⟨He.cls_ok (c.fact 30 rfl)⟩
    haveI : HasNo K "Store" "kinds" := ⟨He.noat_ok (c.fact 31 rfl)⟩
    haveI : HasNo K "Store" "longest" := ⟨He.noat_ok (c.fact 32 rfl)⟩
    haveI : HasNo K "Store" "pieces" := ⟨He.noat_ok (c.fact 33 rfl)⟩
    haveI : HasTup K "KINDS" [.str "even", .str "quick", .str "run"] := tup_ok (c.ext 0 rfl)
    exact pure_Span_ends K h)
theorem cb_checked_name (KX : K.In h) (G : h.Ns mainGlobals mg) (c : SaysX fa fn xf K) : Cb P w K mg base 1 (He.fAd K ("checked_name", none)) ["thing"] [] (sp_checked_name K) :=
  cb_of (T := t_checked_name K) (c.def_ 51 rfl) sc_checked_name (fun vs H Q E h => by
    obtain ⟨_, rfl, _⟩ := h
    rfl) (fun _ _ _ _ _ _ us hl => match us, hl with | [_], _ => rfl)
   (fun cdv A outer s H E hr => by
    have nd := sc_checked_name.nd
    have ho := out_def (cxD_takes (P := P) (w := w) (K := K) (mg := mg) (base := base) (N := N_checked_name) (qual := "checked_name") (st := s_checked_name) (f := He.fAd K ("checked_name", none)) (cdv := cdv) (A := A) (outer := outer) (s := s) (H := H) (E := E))
    have tk := cxD_takes (P := P) (w := w) (K := K) (mg := mg) (base := base) (N := N_checked_name) (qual := "checked_name") (st := s_checked_name) (f := He.fAd K ("checked_name", none)) (cdv := cdv) (A := A) (outer := outer) (s := s) (H := H) (E := E)
    have pz := cxD_passes (P := P) (w := w) (K := K) (mg := mg) (base := base) (N := N_checked_name) (qual := "checked_name") (st := s_checked_name) (f := He.fAd K ("checked_name", none)) (cdv := cdv) (A := A) (outer := outer) (s := s) (H := H) (E := E)
    exact pss_cons (ps_if (PW.pt (pw_or (pt_not (pt_tru (pe_callB c_isi (by rfl) (He.free_ok KX G (c.fact 34 rfl)) (by decide +kernel) (pa_cons (pv 0) (pa_cons (pe_gty (He.free_ok KX G (c.fact 47 rfl)) (by decide +kernel)) (pa_nil)))))) (pw_or1 (pt_not (pt_chain o_le o_le (pe_int) (pe_callB c_len (by rfl) (He.free_ok KX G (c.fact 38 rfl)) (by decide +kernel) (pa_cons (pv 0) (pa_nil))) (pe_gint (He.int_ok KX G (c.fact 48 rfl)))))))) (pss_one (ps_rz (exn_ok KX G (c.fact 49 rfl) (c.fact 50 rfl)) rfl tk)) (pss_nil))
       (pss_cons (ps_for pz rfl (pi_str (pv 0)) (pg_name (i := 1) nd rfl (by first | exact Or.inl rfl | exact Or.inr rfl)) (pss_one (ps_if (pt_not (pt_chain o_le o_le (pe_str) (pv 1) (pe_str))) (pss_one (ps_rz (exn_ok KX G (c.fact 49 rfl) (c.fact 50 rfl)) rfl tk)) (pss_nil))))
       (pss_one (ps_ret (pv 0)))))
   (fun vs H Q E h => by
    obtain ⟨_, rfl, h⟩ := h
    haveI : HasCls K "Slot" := ⟨He.cls_ok (c.fact 0 rfl)⟩
    haveI : HasCls K "Even" := ⟨He.cls_ok (c.fact 1 rfl)⟩
    haveI : HasNo K "Even" "noughts" := ⟨He.noat_ok (c.fact 2 rfl)⟩
    haveI : HasNo K "Even" "ones" := ⟨He.noat_ok (c.fact 3 rfl)⟩
    haveI : HasCls K "Quick" := ⟨He.cls_ok (c.fact 4 rfl)⟩
    haveI : HasNo K "Quick" "held" := ⟨He.noat_ok (c.fact 5 rfl)⟩
    haveI : HasCls K "Run" := ⟨He.cls_ok (c.fact 6 rfl)⟩
    haveI : HasNo K "Run" "last" := ⟨He.noat_ok (c.fact 7 rfl)⟩
    haveI : HasNo K "Run" "length" := ⟨He.noat_ok (c.fact 8 rfl)⟩
    haveI : HasCls K "Book" := ⟨He.cls_ok (c.fact 9 rfl)⟩
    haveI : HasNo K "Book" "look" := ⟨He.noat_ok (c.fact 10 rfl)⟩
    haveI : HasNo K "Book" "slots" := ⟨He.noat_ok (c.fact 11 rfl)⟩
    haveI : HasCls K "Mixer" := ⟨He.cls_ok (c.fact 12 rfl)⟩
    haveI : HasNo K "Mixer" "shares" := ⟨He.noat_ok (c.fact 13 rfl)⟩
    haveI : HasCls K "Foreteller" := ⟨He.cls_ok (c.fact 14 rfl)⟩
    haveI : HasNo K "Foreteller" "kinds" := ⟨He.noat_ok (c.fact 15 rfl)⟩
    haveI : HasNo K "Foreteller" "books" := ⟨He.noat_ok (c.fact 16 rfl)⟩
    haveI : HasNo K "Foreteller" "mixer" := ⟨He.noat_ok (c.fact 17 rfl)⟩
    haveI : HasNo K "Foreteller" "ended" := ⟨He.noat_ok (c.fact 18 rfl)⟩
    haveI : HasNo K "Foreteller" "place" := ⟨He.noat_ok (c.fact 19 rfl)⟩
    haveI : HasNo K "Foreteller" "past" := ⟨He.noat_ok (c.fact 20 rfl)⟩
    haveI : HasCls K "Span" := ⟨He.cls_ok (c.fact 21 rfl)⟩
    haveI : HasNo K "Span" "low" := ⟨He.noat_ok (c.fact 22 rfl)⟩
    haveI : HasNo K "Span" "width" := ⟨He.noat_ok (c.fact 23 rfl)⟩
    haveI : HasNo K "Span" "size" := ⟨He.noat_ok (c.fact 24 rfl)⟩
    haveI : HasCls K "Seeker" := ⟨He.cls_ok (c.fact 25 rfl)⟩
    haveI : HasNo K "Seeker" "row" := ⟨He.noat_ok (c.fact 26 rfl)⟩
    haveI : HasNo K "Seeker" "span" := ⟨He.noat_ok (c.fact 27 rfl)⟩
    haveI : HasNo K "Seeker" "number" := ⟨He.noat_ok (c.fact 28 rfl)⟩
    haveI : HasNo K "Seeker" "taken" := ⟨He.noat_ok (c.fact 29 rfl)⟩
    haveI : HasCls K "Store" := ⟨He.cls_ok (c.fact 30 rfl)⟩
    haveI : HasNo K "Store" "kinds" := ⟨He.noat_ok (c.fact 31 rfl)⟩
    haveI : HasNo K "Store" "longest" := ⟨He.noat_ok (c.fact 32 rfl)⟩
    haveI : HasNo K "Store" "pieces" := ⟨He.noat_ok (c.fact 33 rfl)⟩
    haveI : HasTup K "KINDS" [.str "even", .str "quick", .str "run"] := tup_ok (c.ext 0 rfl)
    exact pure_checked_name K h)
theorem cb_Store_chain (KX : K.In h) (G : h.Ns mainGlobals mg) (c : SaysX fa fn xf K) : Cb P w K mg base 1 (He.fAd K ("Store", some "chain")) ["self", "base"] [] (sp_Store_chain K) :=
  cb_of (T := t_Store_chain K) (c.def_ 54 rfl) sc_Store_chain (fun vs H Q E h => by
    obtain ⟨_, _, rfl, _⟩ := h
    rfl) (fun _ _ _ _ _ _ us hl => match us, hl with | [_, _], _ => rfl)
   (fun cdv A outer s H E hr => by
    have nd := sc_Store_chain.nd
    have ho := out_def (cxD_takes (P := P) (w := w) (K := K) (mg := mg) (base := base) (N := N_Store_chain) (qual := "Store.chain") (st := s_Store_chain) (f := He.fAd K ("Store", some "chain")) (cdv := cdv) (A := A) (outer := outer) (s := s) (H := H) (E := E))
    have tk := cxD_takes (P := P) (w := w) (K := K) (mg := mg) (base := base) (N := N_Store_chain) (qual := "Store.chain") (st := s_Store_chain) (f := He.fAd K ("Store", some "chain")) (cdv := cdv) (A := A) (outer := outer) (s := s) (H := H) (E := E)
    have pz := cxD_passes (P := P) (w := w) (K := K) (mg := mg) (base := base) (N := N_Store_chain) (qual := "Store.chain") (st := s_Store_chain) (f := He.fAd K ("Store", some "chain")) (cdv := cdv) (A := A) (outer := outer) (s := s) (H := H) (E := E)
    exact pss_cons (ps_set (i := 2) nd rfl (by first | exact Or.inl rfl | exact Or.inr rfl) (pe_lst (pa_nil)))
       (pss_cons (ps_while pz (pt_cmpR o_notno (pv 1) (pe_non) (nomark _)) (pss_cons (ps_expr (pe_bm PySem.F.plainAttrs_list PySem.F.slot_list_append PySem.F.type_list_append mt_append (pv 2) (pa_cons (pv 1) (pa_nil))))
       (pss_one (ps_set (i := 1) nd rfl (by first | exact Or.inl rfl | exact Or.inr rfl) (pe_ix ix_seq (pe_dget (hu_of hr) (pe_fld (pv 0) rfl) (pv 1) (fun _ _ => rfl)) (pe_int) (fun _ _ => rfl))))))
       (pss_cons (ps_expr (pe_bm0 PySem.F.plainAttrs_list PySem.F.slot_list_reverse PySem.F.type_list_reverse mt_reverse (pv 2)))
       (pss_one (ps_ret (pv 2))))))
   (fun vs H Q E h => by
    obtain ⟨_, _, rfl, h⟩ := h
    haveI : HasCls K "Slot" := ⟨He.cls_ok (c.fact 0 rfl)⟩
    haveI : HasCls K "Even" := ⟨He.cls_ok (c.fact 1 rfl)⟩
    haveI : HasNo K "Even" "noughts" := ⟨He.noat_ok (c.fact 2 rfl)⟩
    haveI : HasNo K "Even" "ones" := ⟨He.noat_ok (c.fact 3 rfl)⟩
    haveI : HasCls K "Quick" := ⟨He.cls_ok (c.fact 4 rfl)⟩
    haveI : HasNo K "Quick" "held" := ⟨He.noat_ok (c.fact 5 rfl)⟩
    haveI : HasCls K "Run" := ⟨He.cls_ok (c.fact 6 rfl)⟩
    haveI : HasNo K "Run" "last" := ⟨He.noat_ok (c.fact 7 rfl)⟩
    haveI : HasNo K "Run" "length" := ⟨He.noat_ok (c.fact 8 rfl)⟩
    haveI : HasCls K "Book" := ⟨He.cls_ok (c.fact 9 rfl)⟩
    haveI : HasNo K "Book" "look" := ⟨He.noat_ok (c.fact 10 rfl)⟩
    haveI : HasNo K "Book" "slots" := ⟨He.noat_ok (c.fact 11 rfl)⟩
    haveI : HasCls K "Mixer" := ⟨He.cls_ok (c.fact 12 rfl)⟩
    haveI : HasNo K "Mixer" "shares" := ⟨He.noat_ok (c.fact 13 rfl)⟩
    haveI : HasCls K "Foreteller" := ⟨He.cls_ok (c.fact 14 rfl)⟩
    haveI : HasNo K "Foreteller" "kinds" := ⟨He.noat_ok (c.fact 15 rfl)⟩
    haveI : HasNo K "Foreteller" "books" := ⟨He.noat_ok (c.fact 16 rfl)⟩
    haveI : HasNo K "Foreteller" "mixer" := ⟨He.noat_ok (c.fact 17 rfl)⟩
    haveI : HasNo K "Foreteller" "ended" := ⟨He.noat_ok (c.fact 18 rfl)⟩
    haveI : HasNo K "Foreteller" "place" := ⟨He.noat_ok (c.fact 19 rfl)⟩
    haveI : HasNo K "Foreteller" "past" := ⟨He.noat_ok (c.fact 20 rfl)⟩
    haveI : HasCls K "Span" := ⟨He.cls_ok (c.fact 21 rfl)⟩
    haveI : HasNo K "Span" "low" := ⟨He.noat_ok (c.fact 22 rfl)⟩
    haveI : HasNo K "Span" "width" := ⟨He.noat_ok (c.fact 23 rfl)⟩
    haveI : HasNo K "Span" "size" := ⟨He.noat_ok (c.fact 24 rfl)⟩
    haveI : HasCls K "Seeker" := ⟨He.cls_ok (c.fact 25 rfl)⟩
    haveI : HasNo K "Seeker" "row" := ⟨He.noat_ok (c.fact 26 rfl)⟩
    haveI : HasNo K "Seeker" "span" := ⟨He.noat_ok (c.fact 27 rfl)⟩
    haveI : HasNo K "Seeker" "number" := ⟨He.noat_ok (c.fact 28 rfl)⟩
    haveI : HasNo K "Seeker" "taken" := ⟨He.noat_ok (c.fact 29 rfl)⟩
    haveI : HasCls K "Store" := ⟨He.cls_ok (c.fact 30 rfl)⟩
    haveI : HasNo K "Store" "kinds" := ⟨He.noat_ok (c.fact 31 rfl)⟩
    haveI : HasNo K "Store" "longest" := ⟨He.noat_ok (c.fact 32 rfl)⟩
    haveI : HasNo K "Store" "pieces" := ⟨He.noat_ok (c.fact 33 rfl)⟩
    haveI : HasTup K "KINDS" [.str "even", .str "quick", .str "run"] := tup_ok (c.ext 0 rfl)
    exact pure_Store_chain K h)
theorem cb_Lmixed (KX : K.In h) (G : h.Ns mainGlobals mg) (c : SaysX fa fn xf K) : Cb P w K mg base 1 (He.fAd K ("_law_mixed", none)) ["_law_script", "_law_k"] [] (sp_Lmixed K) :=
  cb_of (T := t_Lmixed K) (c.def_ 62 rfl) sc_Lmixed (fun vs H Q E h => by
    obtain ⟨_, _, rfl, _⟩ := h
    rfl) (fun _ _ _ _ _ _ us hl => match us, hl with | [_, _], _ => rfl)
   (fun cdv A outer s H E hr => by
    have nd := sc_Lmixed.nd
    have ho := out_def (cxD_takes (P := P) (w := w) (K := K) (mg := mg) (base := base) (N := N_Lmixed) (qual := "_law_mixed") (st := s_Lmixed) (f := He.fAd K ("_law_mixed", none)) (cdv := cdv) (A := A) (outer := outer) (s := s) (H := H) (E := E))
    have tk := cxD_takes (P := P) (w := w) (K := K) (mg := mg) (base := base) (N := N_Lmixed) (qual := "_law_mixed") (st := s_Lmixed) (f := He.fAd K ("_law_mixed", none)) (cdv := cdv) (A := A) (outer := outer) (s := s) (H := H) (E := E)
    have pz := cxD_passes (P := P) (w := w) (K := K) (mg := mg) (base := base) (N := N_Lmixed) (qual := "_law_mixed") (st := s_Lmixed) (f := He.fAd K ("_law_mixed", none)) (cdv := cdv) (A := A) (outer := outer) (s := s) (H := H) (E := E)
    exact pss_cons (ps_set (i := 2) nd rfl (by first | exact Or.inl rfl | exact Or.inr rfl) (pe_int))
       (pss_cons (ps_if (pt_cmpR o_lt (pv 1) (pe_callB c_len (by rfl) (He.free_ok KX G (c.fact 38 rfl)) (by decide +kernel) (pa_cons (pv 0) (pa_nil))) (nomark _)) (pss_one (ps_set (i := 2) nd rfl (by first | exact Or.inl rfl | exact Or.inr rfl) (pe_op o_rest (pe_ix ix_seq (pv 0) (pv 1) (fun _ _ => rfl)) (pe_int)))) (pss_nil))
       (pss_one (ps_ret (pe_op o_rest (pe_op o_times (pe_op o_plus (pe_op o_plus (pe_op o_plus (pe_op o_times (pv 2) (pv 2)) (pe_op o_times (pe_int) (pv 2))) (pe_op o_times (pe_op o_times (pe_int) (pv 1)) (pv 1))) (pe_int)) (pe_int)) (pe_int))))))
   (fun vs H Q E h => by
    obtain ⟨_, _, rfl, h⟩ := h
    haveI : HasCls K "Slot" := ⟨He.cls_ok (c.fact 0 rfl)⟩
    haveI : HasCls K "Even" := ⟨He.cls_ok (c.fact 1 rfl)⟩
    haveI : HasNo K "Even" "noughts" := ⟨He.noat_ok (c.fact 2 rfl)⟩
    haveI : HasNo K "Even" "ones" := ⟨He.noat_ok (c.fact 3 rfl)⟩
    haveI : HasCls K "Quick" := ⟨He.cls_ok (c.fact 4 rfl)⟩
    haveI : HasNo K "Quick" "held" := ⟨He.noat_ok (c.fact 5 rfl)⟩
    haveI : HasCls K "Run" := ⟨He.cls_ok (c.fact 6 rfl)⟩
    haveI : HasNo K "Run" "last" := ⟨He.noat_ok (c.fact 7 rfl)⟩
    haveI : HasNo K "Run" "length" := ⟨He.noat_ok (c.fact 8 rfl)⟩
    haveI : HasCls K "Book" := ⟨He.cls_ok (c.fact 9 rfl)⟩
    haveI : HasNo K "Book" "look" := ⟨He.noat_ok (c.fact 10 rfl)⟩
    haveI : HasNo K "Book" "slots" := ⟨He.noat_ok (c.fact 11 rfl)⟩
    haveI : HasCls K "Mixer" := ⟨He.cls_ok (c.fact 12 rfl)⟩
    haveI : HasNo K "Mixer" "shares" := ⟨He.noat_ok (c.fact 13 rfl)⟩
    haveI : HasCls K "Foreteller" := ⟨He.cls_ok (c.fact 14 rfl)⟩
    haveI : HasNo K "Foreteller" "kinds" := ⟨He.noat_ok (c.fact 15 rfl)⟩
    haveI : HasNo K "Foreteller" "books" := ⟨He.noat_ok (c.fact 16 rfl)⟩
    haveI : HasNo K "Foreteller" "mixer" := ⟨He.noat_ok (c.fact 17 rfl)⟩
    haveI : HasNo K "Foreteller" "ended" := ⟨He.noat_ok (c.fact 18 rfl)⟩
    haveI : HasNo K "Foreteller" "place" := ⟨He.noat_ok (c.fact 19 rfl)⟩
    haveI : HasNo K "Foreteller" "past" := ⟨He.noat_ok (c.fact 20 rfl)⟩
    haveI : HasCls K "Span" := ⟨He.cls_ok (c.fact 21 rfl)⟩
    haveI : HasNo K "Span" "low" := ⟨He.noat_ok (c.fact 22 rfl)⟩
    haveI : HasNo K "Span" "width" := ⟨He.noat_ok (c.fact 23 rfl)⟩
    haveI : HasNo K "Span" "size" := ⟨He.noat_ok (c.fact 24 rfl)⟩
    haveI : HasCls K "Seeker" := ⟨He.cls_ok (c.fact 25 rfl)⟩
    haveI : HasNo K "Seeker" "row" := ⟨He.noat_ok (c.fact 26 rfl)⟩
    haveI : HasNo K "Seeker" "span" := ⟨He.noat_ok (c.fact 27 rfl)⟩
    haveI : HasNo K "Seeker" "number" := ⟨He.noat_ok (c.fact 28 rfl)⟩
    haveI : HasNo K "Seeker" "taken" := ⟨He.noat_ok (c.fact 29 rfl)⟩
    haveI : HasCls K "Store" := ⟨He.cls_ok (c.fact 30 rfl)⟩
    haveI : HasNo K "Store" "kinds" := ⟨He.noat_ok (c.fact 31 rfl)⟩
    haveI : HasNo K "Store" "longest" := ⟨He.noat_ok (c.fact 32 rfl)⟩
    haveI : HasNo K "Store" "pieces" := ⟨He.noat_ok (c.fact 33 rfl)⟩
    haveI : HasTup K "KINDS" [.str "even", .str "quick", .str "run"] := tup_ok (c.ext 0 rfl)
    exact pure_Lmixed K h)
theorem cb_Llooks (KX : K.In h) (G : h.Ns mainGlobals mg) (c : SaysX fa fn xf K) : Cb P w K mg base 1 (He.fAd K ("_law_looks", none)) ["_law_cell", "_law_most"] [] (sp_Llooks K) :=
  cb_of (T := t_Llooks K) (c.def_ 63 rfl) sc_Llooks (fun vs H Q E h => by
    obtain ⟨_, _, rfl, _⟩ := h
    rfl) (fun _ _ _ _ _ _ us hl => match us, hl with | [_, _], _ => rfl)
   (fun cdv A outer s H E hr => by
    have nd := sc_Llooks.nd
    have ho := out_def (cxD_takes (P := P) (w := w) (K := K) (mg := mg) (base := base) (N := N_Llooks) (qual := "_law_looks") (st := s_Llooks) (f := He.fAd K ("_law_looks", none)) (cdv := cdv) (A := A) (outer := outer) (s := s) (H := H) (E := E))
    have tk := cxD_takes (P := P) (w := w) (K := K) (mg := mg) (base := base) (N := N_Llooks) (qual := "_law_looks") (st := s_Llooks) (f := He.fAd K ("_law_looks", none)) (cdv := cdv) (A := A) (outer := outer) (s := s) (H := H) (E := E)
    have pz := cxD_passes (P := P) (w := w) (K := K) (mg := mg) (base := base) (N := N_Llooks) (qual := "_law_looks") (st := s_Llooks) (f := He.fAd K ("_law_looks", none)) (cdv := cdv) (A := A) (outer := outer) (s := s) (H := H) (E := E)
    exact pss_cons (ps_set (i := 2) nd rfl (by first | exact Or.inl rfl | exact Or.inr rfl) (pe_op o_plus (pe_int) (pe_op o_rest (pv 0) (pv 1))))
       (pss_cons (ps_set (i := 3) nd rfl (by first | exact Or.inl rfl | exact Or.inr rfl) (pe_lst (pa_nil)))
       (pss_cons (ps_for pz rfl (pi_range1 (by rfl) (He.free_ok KX G (c.fact 45 rfl)) (pa_cons (pv 2) (pa_nil))) (pg_name (i := 4) nd rfl (by first | exact Or.inl rfl | exact Or.inr rfl)) (pss_cons (ps_set (i := 0) nd rfl (by first | exact Or.inl rfl | exact Or.inr rfl) (pe_op o_rest (pe_op o_plus (pe_op o_plus (pe_op o_times (pv 0) (pe_int)) (pe_op o_times (pe_int) (pv 4))) (pe_int)) (pe_int)))
       (pss_cons (ps_set (i := 5) nd rfl (by first | exact Or.inl rfl | exact Or.inr rfl) (pe_op o_bits (pe_op o_rest (pe_op o_floor (pv 0) (pe_int)) (pe_int)) (pe_op o_rest (pe_op o_floor (pv 0) (pe_int)) (pe_int))))
       (pss_cons (ps_if (pt_cmpR (o_same hr.units) (pe_op o_rest (pe_op o_floor (pv 0) (pe_int)) (pe_int)) (pe_int) (nomark _)) (pss_one (ps_set (i := 5) nd rfl (by first | exact Or.inl rfl | exact Or.inr rfl) (pe_op o_rest (pe_op o_floor (pv 0) (pe_int)) (pe_int)))) (pss_nil))
       (pss_cons (ps_setLc (i := 6) (own := [("_law_at", 7)]) (g := gName 7) (tt := tTest (tOp (rSame K) (tOp (rMask) (tOp (rRsh) (tVar 5) (tOp (rMinus) (tVar 7) (tC (.int 1)))) (tC (.int 1))) (tC (.int 1)))) rfl nd rfl rfl (sw_true rfl rfl rfl (by decide +kernel)) (pi_range2 (by rfl) (He.free_ok KX G (c.fact 45 rfl)) (pa_cons (pe_int) (pa_cons (pe_int) (pa_nil)))) (blkOk_by (N := N_Llooks) (sc := defScope s_Llooks) (by decide +kernel)) (fun _ _ _ _ _ => pg_name (i := 7) nd rfl (by first | exact Or.inl rfl | exact Or.inr rfl)) (fun _ _ _ _ _ => pts_one (pt_cmpR (o_same hr.units) (pe_op o_mask (pe_op o_rsh (pv 5) (pe_op o_minus (pv 7) (pe_int))) (pe_int)) (pe_int) (nomark _))) (fun _ _ _ _ _ => pv 7))
       (pss_one (ps_expr (pe_bm PySem.F.plainAttrs_list PySem.F.slot_list_append PySem.F.type_list_append mt_append (pv 3) (pa_cons (pe_tup (pa_cons (pe_ix ix_seq (pe_lst (pa_cons (pe_str) (pa_cons (pe_str) (pa_cons (pe_str) (pa_nil))))) (pe_op o_rest (pv 0) (pe_int)) (fun _ _ => rfl)) (pa_cons (pe_callTy c_tuple (by rfl) (He.free_ok KX G (c.fact 39 rfl)) (by decide +kernel) (pa_cons (pe_slice sl_list (pv 6) (po_none) (po_some (pe_int))) (pa_nil))) (pa_nil)))) (pa_nil))))))))))
       (pss_one (ps_ret (pv 3))))))
   (fun vs H Q E h => by
    obtain ⟨_, _, rfl, h⟩ := h
    haveI : HasCls K "Slot" := ⟨He.cls_ok (c.fact 0 rfl)⟩
    haveI : HasCls K "Even" := ⟨He.cls_ok (c.fact 1 rfl)⟩
    haveI : HasNo K "Even" "noughts" := ⟨He.noat_ok (c.fact 2 rfl)⟩
    haveI : HasNo K "Even" "ones" := ⟨He.noat_ok (c.fact 3 rfl)⟩
    haveI : HasCls K "Quick" := ⟨He.cls_ok (c.fact 4 rfl)⟩
    haveI : HasNo K "Quick" "held" := ⟨He.noat_ok (c.fact 5 rfl)⟩
    haveI : HasCls K "Run" := ⟨He.cls_ok (c.fact 6 rfl)⟩
    haveI : HasNo K "Run" "last" := ⟨He.noat_ok (c.fact 7 rfl)⟩
    haveI : HasNo K "Run" "length" := ⟨He.noat_ok (c.fact 8 rfl)⟩
    haveI : HasCls K "Book" := ⟨He.cls_ok (c.fact 9 rfl)⟩
    haveI : HasNo K "Book" "look" := ⟨He.noat_ok (c.fact 10 rfl)⟩
    haveI : HasNo K "Book" "slots" := ⟨He.noat_ok (c.fact 11 rfl)⟩
    haveI : HasCls K "Mixer" := ⟨He.cls_ok (c.fact 12 rfl)⟩
    haveI : HasNo K "Mixer" "shares" := ⟨He.noat_ok (c.fact 13 rfl)⟩
    haveI : HasCls K "Foreteller" := ⟨He.cls_ok (c.fact 14 rfl)⟩
    haveI : HasNo K "Foreteller" "kinds" := ⟨He.noat_ok (c.fact 15 rfl)⟩
    haveI : HasNo K "Foreteller" "books" := ⟨He.noat_ok (c.fact 16 rfl)⟩
    haveI : HasNo K "Foreteller" "mixer" := ⟨He.noat_ok (c.fact 17 rfl)⟩
    haveI : HasNo K "Foreteller" "ended" := ⟨He.noat_ok (c.fact 18 rfl)⟩
    haveI : HasNo K "Foreteller" "place" := ⟨He.noat_ok (c.fact 19 rfl)⟩
    haveI : HasNo K "Foreteller" "past" := ⟨He.noat_ok (c.fact 20 rfl)⟩
    haveI : HasCls K "Span" := ⟨He.cls_ok (c.fact 21 rfl)⟩
    haveI : HasNo K "Span" "low" := ⟨He.noat_ok (c.fact 22 rfl)⟩
    haveI : HasNo K "Span" "width" := ⟨He.noat_ok (c.fact 23 rfl)⟩
    haveI : HasNo K "Span" "size" := ⟨He.noat_ok (c.fact 24 rfl)⟩
    haveI : HasCls K "Seeker" := ⟨He.cls_ok (c.fact 25 rfl)⟩
    haveI : HasNo K "Seeker" "row" := ⟨He.noat_ok (c.fact 26 rfl)⟩
    haveI : HasNo K "Seeker" "span" := ⟨He.noat_ok (c.fact 27 rfl)⟩
    haveI : HasNo K "Seeker" "number" := ⟨He.noat_ok (c.fact 28 rfl)⟩
    haveI : HasNo K "Seeker" "taken" := ⟨He.noat_ok (c.fact 29 rfl)⟩
    haveI : HasCls K "Store" := ⟨He.cls_ok (c.fact 30 rfl)⟩
    haveI : HasNo K "Store" "kinds" := ⟨He.noat_ok (c.fact 31 rfl)⟩
    haveI : HasNo K "Store" "longest" := ⟨He.noat_ok (c.fact 32 rfl)⟩
    haveI : HasNo K "Store" "pieces" := ⟨He.noat_ok (c.fact 33 rfl)⟩
    haveI : HasTup K "KINDS" [.str "even", .str "quick", .str "run"] := tup_ok (c.ext 0 rfl)
    exact pure_Llooks K h)
theorem cb_Lnames (KX : K.In h) (G : h.Ns mainGlobals mg) (c : SaysX fa fn xf K) : Cb P w K mg base 1 (He.fAd K ("_law_names", none)) ["_law_cell", "_law_many"] [] (sp_Lnames K) :=
  cb_of (T := t_Lnames K) (c.def_ 64 rfl) sc_Lnames (fun vs H Q E h => by
    obtain ⟨_, _, rfl, _⟩ := h
    rfl) (fun _ _ _ _ _ _ us hl => match us, hl with | [_, _], _ => rfl)
   (fun cdv A outer s H E hr => by
    have nd := sc_Lnames.nd
    have ho := out_def (cxD_takes (P := P) (w := w) (K := K) (mg := mg) (base := base) (N := N_Lnames) (qual := "_law_names") (st := s_Lnames) (f := He.fAd K ("_law_names", none)) (cdv := cdv) (A := A) (outer := outer) (s := s) (H := H) (E := E))
    have tk := cxD_takes (P := P) (w := w) (K := K) (mg := mg) (base := base) (N := N_Lnames) (qual := "_law_names") (st := s_Lnames) (f := He.fAd K ("_law_names", none)) (cdv := cdv) (A := A) (outer := outer) (s := s) (H := H) (E := E)
    have pz := cxD_passes (P := P) (w := w) (K := K) (mg := mg) (base := base) (N := N_Lnames) (qual := "_law_names") (st := s_Lnames) (f := He.fAd K ("_law_names", none)) (cdv := cdv) (A := A) (outer := outer) (s := s) (H := H) (E := E)
    exact pss_cons (ps_set (i := 2) nd rfl (by first | exact Or.inl rfl | exact Or.inr rfl) (pe_str))
       (pss_cons (ps_set (i := 3) nd rfl (by first | exact Or.inl rfl | exact Or.inr rfl) (pe_op o_rest (pv 0) (pe_int)))
       (pss_cons (ps_set (i := 0) nd rfl (by first | exact Or.inl rfl | exact Or.inr rfl) (pe_op o_floor (pv 0) (pe_int)))
       (pss_cons (ps_set (i := 4) nd rfl (by first | exact Or.inl rfl | exact Or.inr rfl) (pe_str))
       (pss_cons (ps_for pz rfl (pi_range1 (by rfl) (He.free_ok KX G (c.fact 45 rfl)) (pa_cons (pe_op o_rest (pv 0) (pe_int)) (pa_nil))) (pg_name (i := 5) nd rfl (by first | exact Or.inl rfl | exact Or.inr rfl)) (pss_one (ps_set (i := 4) nd rfl (by first | exact Or.inl rfl | exact Or.inr rfl) (pe_op o_plus (pv 4) (pe_ix ix_seq (pv 2) (pe_op o_rest (pe_op o_floor (pe_op o_times (pv 0) (pe_op o_plus (pv 5) (pe_int))) (pe_int)) (pe_int)) (fun _ _ => rfl))))))
       (pss_cons (ps_set (i := 6) nd rfl (by first | exact Or.inl rfl | exact Or.inr rfl) (pe_op o_rest (pe_op o_floor (pv 0) (pe_int)) (pe_op o_plus (pe_callB c_len (by rfl) (He.free_ok KX G (c.fact 38 rfl)) (by decide +kernel) (pa_cons (pv 4) (pa_nil))) (pe_int))))
       (pss_cons (ps_setLc (i := 7) (own := [("_law_k", 5)]) (g := gName 5) (tt := tYes) rfl nd rfl rfl (sw_true rfl rfl rfl (by decide +kernel)) (pi_range1 (by rfl) (He.free_ok KX G (c.fact 45 rfl)) (pa_cons (pv 1) (pa_nil))) (blkOk_by (N := N_Lnames) (sc := defScope s_Lnames) (by decide +kernel)) (fun _ _ _ _ _ => pg_name (i := 5) nd rfl (by first | exact Or.inl rfl | exact Or.inr rfl)) (fun _ _ _ _ _ => pts_nil) (fun _ _ _ _ _ => pe_op o_plus (pe_op o_plus (pe_slice sl_str (pv 4) (po_none) (po_some (pv 6))) (pe_ix ix_seq (pv 2) (pe_op o_plus (pv 3) (pv 5)) (fun _ _ => rfl))) (pe_slice sl_str (pv 4) (po_some (pv 6)) (po_none))))
       (pss_cons (ps_set (i := 8) nd rfl (by first | exact Or.inl rfl | exact Or.inr rfl) (pe_op o_rest (pe_op o_floor (pv 0) (pe_int)) (pv 1)))
       (pss_cons (ps_set (i := 7) nd rfl (by first | exact Or.inl rfl | exact Or.inr rfl) (pe_op o_plus (pe_slice sl_list (pv 7) (po_some (pv 8)) (po_none)) (pe_slice sl_list (pv 7) (po_none) (po_some (pv 8)))))
       (pss_cons (ps_if (pt_cmpR (o_same hr.units) (pe_op o_rest (pe_op o_floor (pv 0) (pe_int)) (pe_int)) (pe_int) (nomark _)) (pss_one (ps_expr (pe_bm0 PySem.F.plainAttrs_list PySem.F.slot_list_reverse PySem.F.type_list_reverse mt_reverse (pv 7)))) (pss_nil))
       (pss_one (ps_ret (pv 7)))))))))))))
   (fun vs H Q E h => by
    obtain ⟨_, _, rfl, h⟩ := h
    haveI : HasCls K "Slot" := ⟨He.cls_ok (c.fact 0 rfl)⟩
    haveI : HasCls K "Even" := ⟨He.cls_ok (c.fact 1 rfl)⟩
    haveI : HasNo K "Even" "noughts" := ⟨He.noat_ok (c.fact 2 rfl)⟩
    haveI : HasNo K "Even" "ones" := ⟨He.noat_ok (c.fact 3 rfl)⟩
    haveI : HasCls K "Quick" := ⟨He.cls_ok (c.fact 4 rfl)⟩
    haveI : HasNo K "Quick" "held" := ⟨He.noat_ok (c.fact 5 rfl)⟩
    haveI : HasCls K "Run" := ⟨He.cls_ok (c.fact 6 rfl)⟩
    haveI : HasNo K "Run" "last" := ⟨He.noat_ok (c.fact 7 rfl)⟩
    haveI : HasNo K "Run" "length" := ⟨He.noat_ok (c.fact 8 rfl)⟩
    haveI : HasCls K "Book" := ⟨He.cls_ok (c.fact 9 rfl)⟩
    haveI : HasNo K "Book" "look" := ⟨He.noat_ok (c.fact 10 rfl)⟩
    haveI : HasNo K "Book" "slots" := ⟨He.noat_ok (c.fact 11 rfl)⟩
    haveI : HasCls K "Mixer" := ⟨He.cls_ok (c.fact 12 rfl)⟩
    haveI : HasNo K "Mixer" "shares" := ⟨He.noat_ok (c.fact 13 rfl)⟩
    haveI : HasCls K "Foreteller" := ⟨He.cls_ok (c.fact 14 rfl)⟩
    haveI : HasNo K "Foreteller" "kinds" := ⟨He.noat_ok (c.fact 15 rfl)⟩
    haveI : HasNo K "Foreteller" "books" := ⟨He.noat_ok (c.fact 16 rfl)⟩
    haveI : HasNo K "Foreteller" "mixer" := ⟨He.noat_ok (c.fact 17 rfl)⟩
    haveI : HasNo K "Foreteller" "ended" := ⟨He.noat_ok (c.fact 18 rfl)⟩
    haveI : HasNo K "Foreteller" "place" := ⟨He.noat_ok (c.fact 19 rfl)⟩
    haveI : HasNo K "Foreteller" "past" := ⟨He.noat_ok (c.fact 20 rfl)⟩
    haveI : HasCls K "Span" := ⟨He.cls_ok (c.fact 21 rfl)⟩
    haveI : HasNo K "Span" "low" := ⟨He.noat_ok (c.fact 22 rfl)⟩
    haveI : HasNo K "Span" "width" := ⟨He.noat_ok (c.fact 23 rfl)⟩
    haveI : HasNo K "Span" "size" := ⟨He.noat_ok (c.fact 24 rfl)⟩
    haveI : HasCls K "Seeker" := ⟨He.cls_ok (c.fact 25 rfl)⟩
    haveI : HasNo K "Seeker" "row" := ⟨He.noat_ok (c.fact 26 rfl)⟩
    haveI : HasNo K "Seeker" "span" := ⟨He.noat_ok (c.fact 27 rfl)⟩
    haveI : HasNo K "Seeker" "number" := ⟨He.noat_ok (c.fact 28 rfl)⟩
    haveI : HasNo K "Seeker" "taken" := ⟨He.noat_ok (c.fact 29 rfl)⟩
    haveI : HasCls K "Store" := ⟨He.cls_ok (c.fact 30 rfl)⟩
    haveI : HasNo K "Store" "kinds" := ⟨He.noat_ok (c.fact 31 rfl)⟩
    haveI : HasNo K "Store" "longest" := ⟨He.noat_ok (c.fact 32 rfl)⟩
    haveI : HasNo K "Store" "pieces" := ⟨He.noat_ok (c.fact 33 rfl)⟩
    haveI : HasTup K "KINDS" [.str "even", .str "quick", .str "run"] := tup_ok (c.ext 0 rfl)
    exact pure_Lnames K h)
theorem cb_is_bit (KX : K.In h) (G : h.Ns mainGlobals mg) (c : SaysX fa fn xf K) : Cb P w K mg base 2 (He.fAd K ("is_bit", none)) ["thing"] [] (sp_is_bit K) :=
  cb_of (T := t_is_bit K) (c.def_ 1 rfl) sc_is_bit (fun vs H Q E h => by
    obtain ⟨_, rfl, _⟩ := h
    rfl) (fun _ _ _ _ _ _ us hl => match us, hl with | [_], _ => rfl)
   (fun cdv A outer s H E hr => by
    have nd := sc_is_bit.nd
    have ho := out_def (cxD_takes (P := P) (w := w) (K := K) (mg := mg) (base := base) (N := N_is_bit) (qual := "is_bit") (st := s_is_bit) (f := He.fAd K ("is_bit", none)) (cdv := cdv) (A := A) (outer := outer) (s := s) (H := H) (E := E))
    have tk := cxD_takes (P := P) (w := w) (K := K) (mg := mg) (base := base) (N := N_is_bit) (qual := "is_bit") (st := s_is_bit) (f := He.fAd K ("is_bit", none)) (cdv := cdv) (A := A) (outer := outer) (s := s) (H := H) (E := E)
    have pz := cxD_passes (P := P) (w := w) (K := K) (mg := mg) (base := base) (N := N_is_bit) (qual := "is_bit") (st := s_is_bit) (f := He.fAd K ("is_bit", none)) (cdv := cdv) (A := A) (outer := outer) (s := s) (H := H) (E := E)
    exact pss_one (ps_ret (pe_and (pe_fun (cb_is_whole KX G c) (hr.mono (by decide)) (He.glo_ok KX G (c.fact 51 rfl)) ho (pa_cons (pv 0) (pa_nil))) (pe_one (pe_chain o_le o_le (pe_int) (pv 0) (pe_int))))))
   (fun vs H Q E h => by
    obtain ⟨_, rfl, h⟩ := h
    haveI : HasCls K "Slot" := ⟨He.cls_ok (c.fact 0 rfl)⟩
    haveI : HasCls K "Even" := ⟨He.cls_ok (c.fact 1 rfl)⟩
    haveI : HasNo K "Even" "noughts" := ⟨He.noat_ok (c.fact 2 rfl)⟩
    haveI : HasNo K "Even" "ones" := ⟨He.noat_ok (c.fact 3 rfl)⟩
    haveI : HasCls K "Quick" := ⟨He.cls_ok (c.fact 4 rfl)⟩
    haveI : HasNo K "Quick" "held" := ⟨He.noat_ok (c.fact 5 rfl)⟩
    haveI : HasCls K "Run" := ⟨He.cls_ok (c.fact 6 rfl)⟩
    haveI : HasNo K "Run" "last" := ⟨He.noat_ok (c.fact 7 rfl)⟩
    haveI : HasNo K "Run" "length" := ⟨He.noat_ok (c.fact 8 rfl)⟩
    haveI : HasCls K "Book" := ⟨He.cls_ok (c.fact 9 rfl)⟩
    haveI : HasNo K "Book" "look" := ⟨He.noat_ok (c.fact 10 rfl)⟩
    haveI : HasNo K "Book" "slots" := ⟨He.noat_ok (c.fact 11 rfl)⟩
    haveI : HasCls K "Mixer" := ⟨He.cls_ok (c.fact 12 rfl)⟩
    haveI : HasNo K "Mixer" "shares" := ⟨He.noat_ok (c.fact 13 rfl)⟩
    haveI : HasCls K "Foreteller" := ⟨He.cls_ok (c.fact 14 rfl)⟩
    haveI : HasNo K "Foreteller" "kinds" := ⟨He.noat_ok (c.fact 15 rfl)⟩
    haveI : HasNo K "Foreteller" "books" := ⟨He.noat_ok (c.fact 16 rfl)⟩
    haveI : HasNo K "Foreteller" "mixer" := ⟨He.noat_ok (c.fact 17 rfl)⟩
    haveI : HasNo K "Foreteller" "ended" := ⟨He.noat_ok (c.fact 18 rfl)⟩
    haveI : HasNo K "Foreteller" "place" := ⟨He.noat_ok (c.fact 19 rfl)⟩
    haveI : HasNo K "Foreteller" "past" := ⟨He.noat_ok (c.fact 20 rfl)⟩
    haveI : HasCls K "Span" := ⟨He.cls_ok (c.fact 21 rfl)⟩
    haveI : HasNo K "Span" "low" := ⟨He.noat_ok (c.fact 22 rfl)⟩
    haveI : HasNo K "Span" "width" := ⟨He.noat_ok (c.fact 23 rfl)⟩
    haveI : HasNo K "Span" "size" := ⟨He.noat_ok (c.fact 24 rfl)⟩
    haveI : HasCls K "Seeker" := ⟨He.cls_ok (c.fact 25 rfl)⟩
    haveI : HasNo K "Seeker" "row" := ⟨He.noat_ok (c.fact 26 rfl)⟩
    haveI : HasNo K "Seeker" "span" := ⟨He.noat_ok (c.fact 27 rfl)⟩
    haveI : HasNo K "Seeker" "number" := ⟨He.noat_ok (c.fact 28 rfl)⟩
    haveI : HasNo K "Seeker" "taken" := ⟨He.noat_ok (c.fact 29 rfl)⟩
    haveI : HasCls K "Store" := ⟨He.cls_ok (c.fact 30 rfl)⟩
    haveI : HasNo K "Store" "kinds" := ⟨He.noat_ok (c.fact 31 rfl)⟩
    haveI : HasNo K "Store" "longest" := ⟨He.noat_ok (c.fact 32 rfl)⟩
    haveI : HasNo K "Store" "pieces" := ⟨He.noat_ok (c.fact 33 rfl)⟩
    haveI : HasTup K "KINDS" [.str "even", .str "quick", .str "run"] := tup_ok (c.ext 0 rfl)
    exact pure_is_bit K h)
theorem cb_is_chance (KX : K.In h) (G : h.Ns mainGlobals mg) (c : SaysX fa fn xf K) : Cb P w K mg base 2 (He.fAd K ("is_chance", none)) ["thing"] [] (sp_is_chance K) :=
  cb_of (T := t_is_chance K) (c.def_ 2 rfl) sc_is_chance (fun vs H Q E h => by
    obtain ⟨_, rfl, _⟩ := h
    rfl) (fun _ _ _ _ _ _ us hl => match us, hl with | [_], _ => rfl)
   (fun cdv A outer s H E hr => by
    have nd := sc_is_chance.nd
    have ho := out_def (cxD_takes (P := P) (w := w) (K := K) (mg := mg) (base := base) (N := N_is_chance) (qual := "is_chance") (st := s_is_chance) (f := He.fAd K ("is_chance", none)) (cdv := cdv) (A := A) (outer := outer) (s := s) (H := H) (E := E))
    have tk := cxD_takes (P := P) (w := w) (K := K) (mg := mg) (base := base) (N := N_is_chance) (qual := "is_chance") (st := s_is_chance) (f := He.fAd K ("is_chance", none)) (cdv := cdv) (A := A) (outer := outer) (s := s) (H := H) (E := E)
    have pz := cxD_passes (P := P) (w := w) (K := K) (mg := mg) (base := base) (N := N_is_chance) (qual := "is_chance") (st := s_is_chance) (f := He.fAd K ("is_chance", none)) (cdv := cdv) (A := A) (outer := outer) (s := s) (H := H) (E := E)
    exact pss_one (ps_ret (pe_and (pe_fun (cb_is_whole KX G c) (hr.mono (by decide)) (He.glo_ok KX G (c.fact 51 rfl)) ho (pa_cons (pv 0) (pa_nil))) (pe_one (pe_chain o_le o_le (pe_gint (He.int_ok KX G (c.fact 52 rfl))) (pv 0) (pe_op o_minus (pe_gint (He.int_ok KX G (c.fact 37 rfl))) (pe_gint (He.int_ok KX G (c.fact 52 rfl)))))))))
   (fun vs H Q E h => by
    obtain ⟨_, rfl, h⟩ := h
    haveI : HasCls K "Slot" := ⟨He.cls_ok (c.fact 0 rfl)⟩
    haveI : HasCls K "Even" := ⟨He.cls_ok (c.fact 1 rfl)⟩
    haveI : HasNo K "Even" "noughts" := ⟨He.noat_ok (c.fact 2 rfl)⟩
    haveI : HasNo K "Even" "ones" := ⟨He.noat_ok (c.fact 3 rfl)⟩
    haveI : HasCls K "Quick" := ⟨He.cls_ok (c.fact 4 rfl)⟩
    haveI : HasNo K "Quick" "held" := ⟨He.noat_ok (c.fact 5 rfl)⟩
    haveI : HasCls K "Run" := ⟨He.cls_ok (c.fact 6 rfl)⟩
    haveI : HasNo K "Run" "last" := ⟨He.noat_ok (c.fact 7 rfl)⟩
    haveI : HasNo K "Run" "length" := ⟨He.noat_ok (c.fact 8 rfl)⟩
    haveI : HasCls K "Book" := ⟨He.cls_ok (c.fact 9 rfl)⟩
    haveI : HasNo K "Book" "look" := ⟨He.noat_ok (c.fact 10 rfl)⟩
    haveI : HasNo K "Book" "slots" := ⟨He.noat_ok (c.fact 11 rfl)⟩
    haveI : HasCls K "Mixer" := ⟨He.cls_ok (c.fact 12 rfl)⟩
    haveI : HasNo K "Mixer" "shares" := ⟨He.noat_ok (c.fact 13 rfl)⟩
    haveI : HasCls K "Foreteller" := ⟨He.cls_ok (c.fact 14 rfl)⟩
    haveI : HasNo K "Foreteller" "kinds" := ⟨He.noat_ok (c.fact 15 rfl)⟩
    haveI : HasNo K "Foreteller" "books" := ⟨He.noat_ok (c.fact 16 rfl)⟩
    haveI : HasNo K "Foreteller" "mixer" := ⟨He.noat_ok (c.fact 17 rfl)⟩
    haveI : HasNo K "Foreteller" "ended" := ⟨He.noat_ok (c.fact 18 rfl)⟩
    haveI : HasNo K "Foreteller" "place" := ⟨He.noat_ok (c.fact 19 rfl)⟩
    haveI : HasNo K "Foreteller" "past" := ⟨He.noat_ok (c.fact 20 rfl)⟩
    haveI : HasCls K "Span" := ⟨He.cls_ok (c.fact 21 rfl)⟩
    haveI : HasNo K "Span" "low" := ⟨He.noat_ok (c.fact 22 rfl)⟩
    haveI : HasNo K "Span" "width" := ⟨He.noat_ok (c.fact 23 rfl)⟩
    haveI : HasNo K "Span" "size" := ⟨He.noat_ok (c.fact 24 rfl)⟩
    haveI : HasCls K "Seeker" := ⟨He.cls_ok (c.fact 25 rfl)⟩
    haveI : HasNo K "Seeker" "row" := ⟨He.noat_ok (c.fact 26 rfl)⟩
    haveI : HasNo K "Seeker" "span" := ⟨He.noat_ok (c.fact 27 rfl)⟩
    haveI : HasNo K "Seeker" "number" := ⟨He.noat_ok (c.fact 28 rfl)⟩
    haveI : HasNo K "Seeker" "taken" := ⟨He.noat_ok (c.fact 29 rfl)⟩
    haveI : HasCls K "Store" := ⟨He.cls_ok (c.fact 30 rfl)⟩
    haveI : HasNo K "Store" "kinds" := ⟨He.noat_ok (c.fact 31 rfl)⟩
    haveI : HasNo K "Store" "longest" := ⟨He.noat_ok (c.fact 32 rfl)⟩
    haveI : HasNo K "Store" "pieces" := ⟨He.noat_ok (c.fact 33 rfl)⟩
    haveI : HasTup K "KINDS" [.str "even", .str "quick", .str "run"] := tup_ok (c.ext 0 rfl)
    exact pure_is_chance K h)
theorem cb_is_sign (KX : K.In h) (G : h.Ns mainGlobals mg) (c : SaysX fa fn xf K) : Cb P w K mg base 2 (He.fAd K ("is_sign", none)) ["thing"] [] (sp_is_sign K) :=
  cb_of (T := t_is_sign K) (c.def_ 3 rfl) sc_is_sign (fun vs H Q E h => by
    obtain ⟨_, rfl, _⟩ := h
    rfl) (fun _ _ _ _ _ _ us hl => match us, hl with | [_], _ => rfl)
   (fun cdv A outer s H E hr => by
    have nd := sc_is_sign.nd
    have ho := out_def (cxD_takes (P := P) (w := w) (K := K) (mg := mg) (base := base) (N := N_is_sign) (qual := "is_sign") (st := s_is_sign) (f := He.fAd K ("is_sign", none)) (cdv := cdv) (A := A) (outer := outer) (s := s) (H := H) (E := E))
    have tk := cxD_takes (P := P) (w := w) (K := K) (mg := mg) (base := base) (N := N_is_sign) (qual := "is_sign") (st := s_is_sign) (f := He.fAd K ("is_sign", none)) (cdv := cdv) (A := A) (outer := outer) (s := s) (H := H) (E := E)
    have pz := cxD_passes (P := P) (w := w) (K := K) (mg := mg) (base := base) (N := N_is_sign) (qual := "is_sign") (st := s_is_sign) (f := He.fAd K ("is_sign", none)) (cdv := cdv) (A := A) (outer := outer) (s := s) (H := H) (E := E)
    exact pss_one (ps_ret (pe_and (pe_fun (cb_is_whole KX G c) (hr.mono (by decide)) (He.glo_ok KX G (c.fact 51 rfl)) ho (pa_cons (pv 0) (pa_nil))) (pe_one (pe_chain o_le o_le (pe_int) (pv 0) (pe_int))))))
   (fun vs H Q E h => by
    obtain ⟨_, rfl, h⟩ := h
    haveI : HasCls K "Slot" := ⟨He.cls_ok (c.fact 0 rfl)⟩
    haveI : HasCls K "Even" := ⟨He.cls_ok (c.fact 1 rfl)⟩
    haveI : HasNo K "Even" "noughts" := ⟨He.noat_ok (c.fact 2 rfl)⟩
    haveI : HasNo K "Even" "ones" := ⟨He.noat_ok (c.fact 3 rfl)⟩
    haveI : HasCls K "Quick" := ⟨He.cls_ok (c.fact 4 rfl)⟩
    haveI : HasNo K "Quick" "held" := ⟨He.noat_ok (c.fact 5 rfl)⟩
    haveI : HasCls K "Run" := ⟨He.cls_ok (c.fact 6 rfl)⟩
    haveI : HasNo K "Run" "last" := ⟨He.noat_ok (c.fact 7 rfl)⟩
    haveI : HasNo K "Run" "length" := ⟨He.noat_ok (c.fact 8 rfl)⟩
    haveI : HasCls K "Book" := ⟨He.cls_ok (c.fact 9 rfl)⟩
    haveI : HasNo K "Book" "look" := ⟨He.noat_ok (c.fact 10 rfl)⟩
    haveI : HasNo K "Book" "slots" := ⟨He.noat_ok (c.fact 11 rfl)⟩
    haveI : HasCls K "Mixer" := ⟨He.cls_ok (c.fact 12 rfl)⟩
    haveI : HasNo K "Mixer" "shares" := ⟨He.noat_ok (c.fact 13 rfl)⟩
    haveI : HasCls K "Foreteller" := ⟨He.cls_ok (c.fact 14 rfl)⟩
    haveI : HasNo K "Foreteller" "kinds" := ⟨He.noat_ok (c.fact 15 rfl)⟩
    haveI : HasNo K "Foreteller" "books" := ⟨He.noat_ok (c.fact 16 rfl)⟩
    haveI : HasNo K "Foreteller" "mixer" := ⟨He.noat_ok (c.fact 17 rfl)⟩
    haveI : HasNo K "Foreteller" "ended" := ⟨He.noat_ok (c.fact 18 rfl)⟩
    haveI : HasNo K "Foreteller" "place" := ⟨He.noat_ok (c.fact 19 rfl)⟩
    haveI : HasNo K "Foreteller" "past" := ⟨He.noat_ok (c.fact 20 rfl)⟩
    haveI : HasCls K "Span" := ⟨He.cls_ok (c.fact 21 rfl)⟩
    haveI : HasNo K "Span" "low" := ⟨He.noat_ok (c.fact 22 rfl)⟩
    haveI : HasNo K "Span" "width" := ⟨He.noat_ok (c.fact 23 rfl)⟩
    haveI : HasNo K "Span" "size" := ⟨He.noat_ok (c.fact 24 rfl)⟩
    haveI : HasCls K "Seeker" := ⟨He.cls_ok (c.fact 25 rfl)⟩
    haveI : HasNo K "Seeker" "row" := ⟨He.noat_ok (c.fact 26 rfl)⟩
    haveI : HasNo K "Seeker" "span" := ⟨He.noat_ok (c.fact 27 rfl)⟩
    haveI : HasNo K "Seeker" "number" := ⟨He.noat_ok (c.fact 28 rfl)⟩
    haveI : HasNo K "Seeker" "taken" := ⟨He.noat_ok (c.fact 29 rfl)⟩
    haveI : HasCls K "Store" := ⟨He.cls_ok (c.fact 30 rfl)⟩
    haveI : HasNo K "Store" "kinds" := ⟨He.noat_ok (c.fact 31 rfl)⟩
    haveI : HasNo K "Store" "longest" := ⟨He.noat_ok (c.fact 32 rfl)⟩
    haveI : HasNo K "Store" "pieces" := ⟨He.noat_ok (c.fact 33 rfl)⟩
    haveI : HasTup K "KINDS" [.str "even", .str "quick", .str "run"] := tup_ok (c.ext 0 rfl)
    exact pure_is_sign K h)
theorem cb_checked_most (KX : K.In h) (G : h.Ns mainGlobals mg) (c : SaysX fa fn xf K) : Cb P w K mg base 2 (He.fAd K ("checked_most", none)) ["thing"] [] (sp_checked_most K) :=
  cb_of (T := t_checked_most K) (c.def_ 9 rfl) sc_checked_most (fun vs H Q E h => by
    obtain ⟨_, rfl, _⟩ := h
    rfl) (fun _ _ _ _ _ _ us hl => match us, hl with | [_], _ => rfl)
   (fun cdv A outer s H E hr => by
    have nd := sc_checked_most.nd
    have ho := out_def (cxD_takes (P := P) (w := w) (K := K) (mg := mg) (base := base) (N := N_checked_most) (qual := "checked_most") (st := s_checked_most) (f := He.fAd K ("checked_most", none)) (cdv := cdv) (A := A) (outer := outer) (s := s) (H := H) (E := E))
    have tk := cxD_takes (P := P) (w := w) (K := K) (mg := mg) (base := base) (N := N_checked_most) (qual := "checked_most") (st := s_checked_most) (f := He.fAd K ("checked_most", none)) (cdv := cdv) (A := A) (outer := outer) (s := s) (H := H) (E := E)
    have pz := cxD_passes (P := P) (w := w) (K := K) (mg := mg) (base := base) (N := N_checked_most) (qual := "checked_most") (st := s_checked_most) (f := He.fAd K ("checked_most", none)) (cdv := cdv) (A := A) (outer := outer) (s := s) (H := H) (E := E)
    exact pss_cons (ps_if (PW.pt (pw_or (pt_not (pt_tru (pe_fun (cb_is_whole KX G c) (hr.mono (by decide)) (He.glo_ok KX G (c.fact 51 rfl)) ho (pa_cons (pv 0) (pa_nil))))) (pw_or1 (pt_not (pt_chain o_le o_le (pe_int) (pv 0) (pe_gint (He.int_ok KX G (c.fact 53 rfl)))))))) (pss_one (ps_rz (exn_ok KX G (c.fact 54 rfl) (c.fact 55 rfl)) rfl tk)) (pss_nil))
       (pss_one (ps_ret (pv 0))))
   (fun vs H Q E h => by
    obtain ⟨_, rfl, h⟩ := h
    haveI : HasCls K "Slot" := ⟨He.cls_ok (c.fact 0 rfl)⟩
    haveI : HasCls K "Even" := ⟨He.cls_ok (c.fact 1 rfl)⟩
    haveI : HasNo K "Even" "noughts" := ⟨He.noat_ok (c.fact 2 rfl)⟩
    haveI : HasNo K "Even" "ones" := ⟨He.noat_ok (c.fact 3 rfl)⟩
    haveI : HasCls K "Quick" := ⟨He.cls_ok (c.fact 4 rfl)⟩
    haveI : HasNo K "Quick" "held" := ⟨He.noat_ok (c.fact 5 rfl)⟩
    haveI : HasCls K "Run" := ⟨He.cls_ok (c.fact 6 rfl)⟩
    haveI : HasNo K "Run" "last" := ⟨He.noat_ok (c.fact 7 rfl)⟩
    haveI : HasNo K "Run" "length" := ⟨He.noat_ok (c.fact 8 rfl)⟩
    haveI : HasCls K "Book" := ⟨He.cls_ok (c.fact 9 rfl)⟩
    haveI : HasNo K "Book" "look" := ⟨He.noat_ok (c.fact 10 rfl)⟩
    haveI : HasNo K "Book" "slots" := ⟨He.noat_ok (c.fact 11 rfl)⟩
    haveI : HasCls K "Mixer" := ⟨He.cls_ok (c.fact 12 rfl)⟩
    haveI : HasNo K "Mixer" "shares" := ⟨He.noat_ok (c.fact 13 rfl)⟩
    haveI : HasCls K "Foreteller" := ⟨He.cls_ok (c.fact 14 rfl)⟩
    haveI : HasNo K "Foreteller" "kinds" := ⟨He.noat_ok (c.fact 15 rfl)⟩
    haveI : HasNo K "Foreteller" "books" := ⟨He.noat_ok (c.fact 16 rfl)⟩
    haveI : HasNo K "Foreteller" "mixer" := ⟨He.noat_ok (c.fact 17 rfl)⟩
    haveI : HasNo K "Foreteller" "ended" := ⟨He.noat_ok (c.fact 18 rfl)⟩
    haveI : HasNo K "Foreteller" "place" := ⟨He.noat_ok (c.fact 19 rfl)⟩
    haveI : HasNo K "Foreteller" "past" := ⟨He.noat_ok (c.fact 20 rfl)⟩
    haveI : HasCls K "Span" := ⟨He.cls_ok (c.fact 21 rfl)⟩
    haveI : HasNo K "Span" "low" := ⟨He.noat_ok (c.fact 22 rfl)⟩
    haveI : HasNo K "Span" "width" := ⟨He.noat_ok (c.fact 23 rfl)⟩
    haveI : HasNo K "Span" "size" := ⟨He.noat_ok (c.fact 24 rfl)⟩
    haveI : HasCls K "Seeker" := ⟨He.cls_ok (c.fact 25 rfl)⟩
    haveI : HasNo K "Seeker" "row" := ⟨He.noat_ok (c.fact 26 rfl)⟩
    haveI : HasNo K "Seeker" "span" := ⟨He.noat_ok (c.fact 27 rfl)⟩
    haveI : HasNo K "Seeker" "number" := ⟨He.noat_ok (c.fact 28 rfl)⟩
    haveI : HasNo K "Seeker" "taken" := ⟨He.noat_ok (c.fact 29 rfl)⟩
    haveI : HasCls K "Store" := ⟨He.cls_ok (c.fact 30 rfl)⟩
    haveI : HasNo K "Store" "kinds" := ⟨He.noat_ok (c.fact 31 rfl)⟩
    haveI : HasNo K "Store" "longest" := ⟨He.noat_ok (c.fact 32 rfl)⟩
    haveI : HasNo K "Store" "pieces" := ⟨He.noat_ok (c.fact 33 rfl)⟩
    haveI : HasTup K "KINDS" [.str "even", .str "quick", .str "run"] := tup_ok (c.ext 0 rfl)
    exact pure_checked_most K h)
theorem cb_are_places (KX : K.In h) (G : h.Ns mainGlobals mg) (c : SaysX fa fn xf K) : Cb P w K mg base 2 (He.fAd K ("are_places", none)) ["thing"] [] (sp_are_places K) :=
  cb_of (T := t_are_places K) (c.def_ 21 rfl) sc_are_places (fun vs H Q E h => by
    obtain ⟨_, rfl, _⟩ := h
    rfl) (fun _ _ _ _ _ _ us hl => match us, hl with | [_], _ => rfl)
   (fun cdv A outer s H E hr => by
    have nd := sc_are_places.nd
    have ho := out_def (cxD_takes (P := P) (w := w) (K := K) (mg := mg) (base := base) (N := N_are_places) (qual := "are_places") (st := s_are_places) (f := He.fAd K ("are_places", none)) (cdv := cdv) (A := A) (outer := outer) (s := s) (H := H) (E := E))
    have tk := cxD_takes (P := P) (w := w) (K := K) (mg := mg) (base := base) (N := N_are_places) (qual := "are_places") (st := s_are_places) (f := He.fAd K ("are_places", none)) (cdv := cdv) (A := A) (outer := outer) (s := s) (H := H) (E := E)
    have pz := cxD_passes (P := P) (w := w) (K := K) (mg := mg) (base := base) (N := N_are_places) (qual := "are_places") (st := s_are_places) (f := He.fAd K ("are_places", none)) (cdv := cdv) (A := A) (outer := outer) (s := s) (H := H) (E := E)
    exact pss_cons (ps_if (PW.pt (pw_or (pt_not (pt_tru (pe_callB c_isi (by rfl) (He.free_ok KX G (c.fact 34 rfl)) (by decide +kernel) (pa_cons (pv 0) (pa_cons (pe_gty (He.free_ok KX G (c.fact 39 rfl)) (by decide +kernel)) (pa_nil)))))) (pw_or1 (pt_cmpR o_gt (pe_callB c_len (by rfl) (He.free_ok KX G (c.fact 38 rfl)) (by decide +kernel) (pa_cons (pv 0) (pa_nil))) (pe_gint (He.int_ok KX G (c.fact 56 rfl))) (nomark _))))) (pss_one (ps_ret (pe_bl))) (pss_nil))
       (pss_cons (ps_set (i := 1) nd rfl (by first | exact Or.inl rfl | exact Or.inr rfl) (pe_int))
       (pss_cons (ps_for pz rfl (pi_tup (pv 0)) (pg_name (i := 2) nd rfl (by first | exact Or.inl rfl | exact Or.inr rfl)) (pss_cons (ps_if (PW.pt (pw_or (pt_not (pt_tru (pe_fun (cb_is_whole KX G c) (hr.mono (by decide)) (He.glo_ok KX G (c.fact 51 rfl)) ho (pa_cons (pv 2) (pa_nil))))) (pw_or1 (pt_not (pt_chain o_lt o_le (pv 1) (pv 2) (pe_gint (He.int_ok KX G (c.fact 57 rfl)))))))) (pss_one (ps_ret (pe_bl))) (pss_nil))
       (pss_one (ps_set (i := 1) nd rfl (by first | exact Or.inl rfl | exact Or.inr rfl) (pv 2)))))
       (pss_one (ps_ret (pe_bl))))))
   (fun vs H Q E h => by
    obtain ⟨_, rfl, h⟩ := h
    haveI : HasCls K "Slot" := ⟨He.cls_ok (c.fact 0 rfl)⟩
    haveI : HasCls K "Even" := ⟨He.cls_ok (c.fact 1 rfl)⟩
    haveI : HasNo K "Even" "noughts" := ⟨He.noat_ok (c.fact 2 rfl)⟩
    haveI : HasNo K "Even" "ones" := ⟨He.noat_ok (c.fact 3 rfl)⟩
    haveI : HasCls K "Quick" := ⟨He.cls_ok (c.fact 4 rfl)⟩
    haveI : HasNo K "Quick" "held" := ⟨He.noat_ok (c.fact 5 rfl)⟩
    haveI : HasCls K "Run" := ⟨He.cls_ok (c.fact 6 rfl)⟩
    haveI : HasNo K "Run" "last" := ⟨He.noat_ok (c.fact 7 rfl)⟩
    haveI : HasNo K "Run" "length" := ⟨He.noat_ok (c.fact 8 rfl)⟩
    haveI : HasCls K "Book" := ⟨He.cls_ok (c.fact 9 rfl)⟩
    haveI : HasNo K "Book" "look" := ⟨He.noat_ok (c.fact 10 rfl)⟩
    haveI : HasNo K "Book" "slots" := ⟨He.noat_ok (c.fact 11 rfl)⟩
    haveI : HasCls K "Mixer" := ⟨He.cls_ok (c.fact 12 rfl)⟩
    haveI : HasNo K "Mixer" "shares" := ⟨He.noat_ok (c.fact 13 rfl)⟩
    haveI : HasCls K "Foreteller" := ⟨He.cls_ok (c.fact 14 rfl)⟩
    haveI : HasNo K "Foreteller" "kinds" := ⟨He.noat_ok (c.fact 15 rfl)⟩
    haveI : HasNo K "Foreteller" "books" := ⟨He.noat_ok (c.fact 16 rfl)⟩
    haveI : HasNo K "Foreteller" "mixer" := ⟨He.noat_ok (c.fact 17 rfl)⟩
    haveI : HasNo K "Foreteller" "ended" := ⟨He.noat_ok (c.fact 18 rfl)⟩
    haveI : HasNo K "Foreteller" "place" := ⟨He.noat_ok (c.fact 19 rfl)⟩
    haveI : HasNo K "Foreteller" "past" := ⟨He.noat_ok (c.fact 20 rfl)⟩
    haveI : HasCls K "Span" := ⟨He.cls_ok (c.fact 21 rfl)⟩
    haveI : HasNo K "Span" "low" := ⟨He.noat_ok (c.fact 22 rfl)⟩
    haveI : HasNo K "Span" "width" := ⟨He.noat_ok (c.fact 23 rfl)⟩
    haveI : HasNo K "Span" "size" := ⟨He.noat_ok (c.fact 24 rfl)⟩
    haveI : HasCls K "Seeker" := ⟨He.cls_ok (c.fact 25 rfl)⟩
    haveI : HasNo K "Seeker" "row" := ⟨He.noat_ok (c.fact 26 rfl)⟩
    haveI : HasNo K "Seeker" "span" := ⟨He.noat_ok (c.fact 27 rfl)⟩
    haveI : HasNo K "Seeker" "number" := ⟨He.noat_ok (c.fact 28 rfl)⟩
    haveI : HasNo K "Seeker" "taken" := ⟨He.noat_ok (c.fact 29 rfl)⟩
    haveI : HasCls K "Store" := ⟨He.cls_ok (c.fact 30 rfl)⟩
    haveI : HasNo K "Store" "kinds" := ⟨He.noat_ok (c.fact 31 rfl)⟩
    haveI : HasNo K "Store" "longest" := ⟨He.noat_ok (c.fact 32 rfl)⟩
    haveI : HasNo K "Store" "pieces" := ⟨He.noat_ok (c.fact 33 rfl)⟩
    haveI : HasTup K "KINDS" [.str "even", .str "quick", .str "run"] := tup_ok (c.ext 0 rfl)
    exact pure_are_places K h)
theorem cb_Span_told (KX : K.In h) (G : h.Ns mainGlobals mg) (c : SaysX fa fn xf K) : Cb P w K mg base 2 (He.fAd K ("Span", some "told")) ["self"] [] (sp_Span_told K) :=
  cb_of (T := t_Span_told K) (c.def_ 44 rfl) sc_Span_told (fun vs H Q E h => by
    obtain ⟨_, rfl, _⟩ := h
    rfl) (fun _ _ _ _ _ _ us hl => match us, hl with | [_], _ => rfl)
   (fun cdv A outer s H E hr => by
    have nd := sc_Span_told.nd
    have ho := out_def (cxD_takes (P := P) (w := w) (K := K) (mg := mg) (base := base) (N := N_Span_told) (qual := "Span.told") (st := s_Span_told) (f := He.fAd K ("Span", some "told")) (cdv := cdv) (A := A) (outer := outer) (s := s) (H := H) (E := E))
    have tk := cxD_takes (P := P) (w := w) (K := K) (mg := mg) (base := base) (N := N_Span_told) (qual := "Span.told") (st := s_Span_told) (f := He.fAd K ("Span", some "told")) (cdv := cdv) (A := A) (outer := outer) (s := s) (H := H) (E := E)
    have pz := cxD_passes (P := P) (w := w) (K := K) (mg := mg) (base := base) (N := N_Span_told) (qual := "Span.told") (st := s_Span_told) (f := He.fAd K ("Span", some "told")) (cdv := cdv) (A := A) (outer := outer) (s := s) (H := H) (E := E)
    exact pss_cons (ps_set (i := 1) nd rfl (by first | exact Or.inl rfl | exact Or.inr rfl) (pe_int))
       (pss_cons (ps_set (i := 2) nd rfl (by first | exact Or.inl rfl | exact Or.inr rfl) (pe_gint (He.int_ok KX G (c.fact 46 rfl))))
       (pss_cons (ps_set (i := 3) nd rfl (by first | exact Or.inl rfl | exact Or.inr rfl) (pe_un o_neg (pe_op o_floor (pe_un o_neg (pe_fld (pv 0) rfl)) (pv 2))))
       (pss_cons (ps_while pz (pt_cmpR o_gt (pe_op o_times (pe_op o_plus (pv 3) (pe_int)) (pv 2)) (pe_op o_plus (pe_fld (pv 0) rfl) (pe_fld (pv 0) rfl)) (nomark _)) (pss_cons (ps_aug (i := 1) nd rfl (by first | exact Or.inl rfl | exact Or.inr rfl) (pe_int) ip_sub)
       (pss_cons (ps_set (i := 2) nd rfl (by first | exact Or.inl rfl | exact Or.inr rfl) (pe_op o_rsh (pv 2) (pe_int)))
       (pss_one (ps_set (i := 3) nd rfl (by first | exact Or.inl rfl | exact Or.inr rfl) (pe_un o_neg (pe_op o_floor (pe_un o_neg (pe_fld (pv 0) rfl)) (pv 2))))))))
       (pss_one (ps_ret (pe_fun (cb_bytes_of_number KX G c) (hr.mono (by decide)) (He.glo_ok KX G (c.fact 58 rfl)) ho (pa_cons (pv 3) (pa_cons (pe_op o_minus (pe_fld (pv 0) rfl) (pv 1)) (pa_nil))))))))))
   (fun vs H Q E h => by
    obtain ⟨_, rfl, h⟩ := h
    haveI : HasCls K "Slot" := ⟨He.cls_ok (c.fact 0 rfl)⟩
    haveI : HasCls K "Even" := ⟨He.cls_ok (c.fact 1 rfl)⟩
    haveI : HasNo K "Even" "noughts" := ⟨He.noat_ok (c.fact 2 rfl)⟩
    haveI : HasNo K "Even" "ones" := ⟨He.noat_ok (c.fact 3 rfl)⟩
    haveI : HasCls K "Quick" := ⟨He.cls_ok (c.fact 4 rfl)⟩
    haveI : HasNo K "Quick" "held" := ⟨He.noat_ok (c.fact 5 rfl)⟩
    haveI : HasCls K "Run" := ⟨He.cls_ok (c.fact 6 rfl)⟩
    haveI : HasNo K "Run" "last" := ⟨He.noat_ok (c.fact 7 rfl)⟩
    haveI : HasNo K "Run" "length" := ⟨He.noat_ok (c.fact 8 rfl)⟩
    haveI : HasCls K "Book" := ⟨He.cls_ok (c.fact 9 rfl)⟩
    haveI : HasNo K "Book" "look" := ⟨He.noat_ok (c.fact 10 rfl)⟩
    haveI : HasNo K "Book" "slots" := ⟨He.noat_ok (c.fact 11 rfl)⟩
    haveI : HasCls K "Mixer" := ⟨He.cls_ok (c.fact 12 rfl)⟩
    haveI : HasNo K "Mixer" "shares" := ⟨He.noat_ok (c.fact 13 rfl)⟩
    haveI : HasCls K "Foreteller" := ⟨He.cls_ok (c.fact 14 rfl)⟩
    haveI : HasNo K "Foreteller" "kinds" := ⟨He.noat_ok (c.fact 15 rfl)⟩
    haveI : HasNo K "Foreteller" "books" := ⟨He.noat_ok (c.fact 16 rfl)⟩
    haveI : HasNo K "Foreteller" "mixer" := ⟨He.noat_ok (c.fact 17 rfl)⟩
    haveI : HasNo K "Foreteller" "ended" := ⟨He.noat_ok (c.fact 18 rfl)⟩
    haveI : HasNo K "Foreteller" "place" := ⟨He.noat_ok (c.fact 19 rfl)⟩
    haveI : HasNo K "Foreteller" "past" := ⟨He.noat_ok (c.fact 20 rfl)⟩
    haveI : HasCls K "Span" := ⟨He.cls_ok (c.fact 21 rfl)⟩
    haveI : HasNo K "Span" "low" := ⟨He.noat_ok (c.fact 22 rfl)⟩
    haveI : HasNo K "Span" "width" := ⟨He.noat_ok (c.fact 23 rfl)⟩
    haveI : HasNo K "Span" "size" := ⟨He.noat_ok (c.fact 24 rfl)⟩
    haveI : HasCls K "Seeker" := ⟨He.cls_ok (c.fact 25 rfl)⟩
    haveI : HasNo K "Seeker" "row" := ⟨He.noat_ok (c.fact 26 rfl)⟩
    haveI : HasNo K "Seeker" "span" := ⟨He.noat_ok (c.fact 27 rfl)⟩
    haveI : HasNo K "Seeker" "number" := ⟨He.noat_ok (c.fact 28 rfl)⟩
    haveI : HasNo K "Seeker" "taken" := ⟨He.noat_ok (c.fact 29 rfl)⟩
    haveI : HasCls K "Store" := ⟨He.cls_ok (c.fact 30 rfl)⟩
    haveI : HasNo K "Store" "kinds" := ⟨He.noat_ok (c.fact 31 rfl)⟩
    haveI : HasNo K "Store" "longest" := ⟨He.noat_ok (c.fact 32 rfl)⟩
    haveI : HasNo K "Store" "pieces" := ⟨He.noat_ok (c.fact 33 rfl)⟩
    haveI : HasTup K "KINDS" [.str "even", .str "quick", .str "run"] := tup_ok (c.ext 0 rfl)
    exact pure_Span_told K h)
theorem cb_Seeker_take (KX : K.In h) (G : h.Ns mainGlobals mg) (c : SaysX fa fn xf K) : Cb P w K mg base 2 (He.fAd K ("Seeker", some "take")) ["self"] [] (sp_Seeker_take K) :=
  cb_of (T := t_Seeker_take K) (c.def_ 46 rfl) sc_Seeker_take (fun vs H Q E h => by
    obtain ⟨_, rfl, _⟩ := h
    rfl) (fun _ _ _ _ _ _ us hl => match us, hl with | [_], _ => rfl)
   (fun cdv A outer s H E hr => by
    have nd := sc_Seeker_take.nd
    have ho := out_def (cxD_takes (P := P) (w := w) (K := K) (mg := mg) (base := base) (N := N_Seeker_take) (qual := "Seeker.take") (st := s_Seeker_take) (f := He.fAd K ("Seeker", some "take")) (cdv := cdv) (A := A) (outer := outer) (s := s) (H := H) (E := E))
    have tk := cxD_takes (P := P) (w := w) (K := K) (mg := mg) (base := base) (N := N_Seeker_take) (qual := "Seeker.take") (st := s_Seeker_take) (f := He.fAd K ("Seeker", some "take")) (cdv := cdv) (A := A) (outer := outer) (s := s) (H := H) (E := E)
    have pz := cxD_passes (P := P) (w := w) (K := K) (mg := mg) (base := base) (N := N_Seeker_take) (qual := "Seeker.take") (st := s_Seeker_take) (f := He.fAd K ("Seeker", some "take")) (cdv := cdv) (A := A) (outer := outer) (s := s) (H := H) (E := E)
    exact pss_cons (ps_set (i := 1) nd rfl (by first | exact Or.inl rfl | exact Or.inr rfl) (pe_ix ix_seq (pe_mth0 (k := 1) (pe_fld (pv 0) rfl) (mo_one (He.cls_ok (c.fact 21 rfl)) (He.meth_ok (c.fact 59 rfl)) (cb_Span_ends KX G c) (by decide)) hr ho) (pe_int) (fun _ _ => rfl)))
       (pss_one (ps_while pz (pt_cmpR o_lt (pe_fld (pv 0) rfl) (pv 1) (nomark _)) (pss_cons (ps_set (i := 2) nd rfl (by first | exact Or.inl rfl | exact Or.inr rfl) (pe_int))
       (pss_cons (ps_if (pt_cmpR o_lt (pe_fld (pv 0) rfl) (pe_callB c_len (by rfl) (He.free_ok KX G (c.fact 38 rfl)) (by decide +kernel) (pa_cons (pe_fld (pv 0) rfl) (pa_nil))) (nomark _)) (pss_one (ps_set (i := 2) nd rfl (by first | exact Or.inl rfl | exact Or.inr rfl) (pe_ix ix_seq (pe_fld (pv 0) rfl) (pe_fld (pv 0) rfl) (fun _ _ => rfl)))) (pss_nil))
       (pss_cons (ps_fld (pv 0) (pe_op o_plus (pe_op o_lsh (pe_fld (pv 0) rfl) (pe_int)) (pv 2)) rfl)
       (pss_one (ps_fldaug (pv 0) (pe_int) in_add))))))))
   (fun vs H Q E h => by
    obtain ⟨_, rfl, h⟩ := h
    haveI : HasCls K "Slot" := ⟨He.cls_ok (c.fact 0 rfl)⟩
    haveI : HasCls K "Even" := ⟨He.cls_ok (c.fact 1 rfl)⟩
    haveI : HasNo K "Even" "noughts" := ⟨He.noat_ok (c.fact 2 rfl)⟩
    haveI : HasNo K "Even" "ones" := ⟨He.noat_ok (c.fact 3 rfl)⟩
    haveI : HasCls K "Quick" := ⟨He.cls_ok (c.fact 4 rfl)⟩
    haveI : HasNo K "Quick" "held" := ⟨He.noat_ok (c.fact 5 rfl)⟩
    haveI : HasCls K "Run" := ⟨He.cls_ok (c.fact 6 rfl)⟩
    haveI : HasNo K "Run" "last" := ⟨He.noat_ok (c.fact 7 rfl)⟩
    haveI : HasNo K "Run" "length" := ⟨He.noat_ok (c.fact 8 rfl)⟩
    haveI : HasCls K "Book" := ⟨He.cls_ok (c.fact 9 rfl)⟩
    haveI : HasNo K "Book" "look" := ⟨He.noat_ok (c.fact 10 rfl)⟩
    haveI : HasNo K "Book" "slots" := ⟨He.noat_ok (c.fact 11 rfl)⟩
    haveI : HasCls K "Mixer" := ⟨He.cls_ok (c.fact 12 rfl)⟩
    haveI : HasNo K "Mixer" "shares" := ⟨He.noat_ok (c.fact 13 rfl)⟩
    haveI : HasCls K "Foreteller" := ⟨He.cls_ok (c.fact 14 rfl)⟩
    haveI : HasNo K "Foreteller" "kinds" := ⟨He.noat_ok (c.fact 15 rfl)⟩
    haveI : HasNo K "Foreteller" "books" := ⟨He.noat_ok (c.fact 16 rfl)⟩
    haveI : HasNo K "Foreteller" "mixer" := ⟨He.noat_ok (c.fact 17 rfl)⟩
    haveI : HasNo K "Foreteller" "ended" := ⟨He.noat_ok (c.fact 18 rfl)⟩
    haveI : HasNo K "Foreteller" "place" := ⟨He.noat_ok (c.fact 19 rfl)⟩
    haveI : HasNo K "Foreteller" "past" := ⟨He.noat_ok (c.fact 20 rfl)⟩
    haveI : HasCls K "Span" := ⟨He.cls_ok (c.fact 21 rfl)⟩
    haveI : HasNo K "Span" "low" := ⟨He.noat_ok (c.fact 22 rfl)⟩
    haveI : HasNo K "Span" "width" := ⟨He.noat_ok (c.fact 23 rfl)⟩
    haveI : HasNo K "Span" "size" := ⟨He.noat_ok (c.fact 24 rfl)⟩
    haveI : HasCls K "Seeker" := ⟨He.cls_ok (c.fact 25 rfl)⟩
    haveI : HasNo K "Seeker" "row" := ⟨He.noat_ok (c.fact 26 rfl)⟩
    haveI : HasNo K "Seeker" "span" := ⟨He.noat_ok (c.fact 27 rfl)⟩
    haveI : HasNo K "Seeker" "number" := ⟨He.noat_ok (c.fact 28 rfl)⟩
    haveI : HasNo K "Seeker" "taken" := ⟨He.noat_ok (c.fact 29 rfl)⟩
    haveI : HasCls K "Store" := ⟨He.cls_ok (c.fact 30 rfl)⟩
    haveI : HasNo K "Store" "kinds" := ⟨He.noat_ok (c.fact 31 rfl)⟩
    haveI : HasNo K "Store" "longest" := ⟨He.noat_ok (c.fact 32 rfl)⟩
    haveI : HasNo K "Store" "pieces" := ⟨He.noat_ok (c.fact 33 rfl)⟩
    haveI : HasTup K "KINDS" [.str "even", .str "quick", .str "run"] := tup_ok (c.ext 0 rfl)
    exact pure_Seeker_take K h)
theorem cb_Store_sought_piece (KX : K.In h) (G : h.Ns mainGlobals mg) (c : SaysX fa fn xf K) : Cb P w K mg base 2 (He.fAd K ("Store", some "sought_piece")) ["self", "name"] [] (sp_Store_sought_piece K) :=
  cb_of (T := t_Store_sought_piece K) (c.def_ 53 rfl) sc_Store_sought_piece (fun vs H Q E h => by
    obtain ⟨_, _, rfl, _⟩ := h
    rfl) (fun _ _ _ _ _ _ us hl => match us, hl with | [_, _], _ => rfl)
   (fun cdv A outer s H E hr => by
    have nd := sc_Store_sought_piece.nd
    have ho := out_def (cxD_takes (P := P) (w := w) (K := K) (mg := mg) (base := base) (N := N_Store_sought_piece) (qual := "Store.sought_piece") (st := s_Store_sought_piece) (f := He.fAd K ("Store", some "sought_piece")) (cdv := cdv) (A := A) (outer := outer) (s := s) (H := H) (E := E))
    have tk := cxD_takes (P := P) (w := w) (K := K) (mg := mg) (base := base) (N := N_Store_sought_piece) (qual := "Store.sought_piece") (st := s_Store_sought_piece) (f := He.fAd K ("Store", some "sought_piece")) (cdv := cdv) (A := A) (outer := outer) (s := s) (H := H) (E := E)
    have pz := cxD_passes (P := P) (w := w) (K := K) (mg := mg) (base := base) (N := N_Store_sought_piece) (qual := "Store.sought_piece") (st := s_Store_sought_piece) (f := He.fAd K ("Store", some "sought_piece")) (cdv := cdv) (A := A) (outer := outer) (s := s) (H := H) (E := E)
    exact pss_cons (ps_if (pt_cmp (pc_dnotin (hu_of hr) (pe_fun (cb_checked_name KX G c) (hr.mono (by decide)) (He.glo_ok KX G (c.fact 60 rfl)) ho (pa_cons (pv 1) (pa_nil))) (pe_fld (pv 0) rfl))) (pss_one (ps_rz (exn_ok KX G (c.fact 61 rfl) (c.fact 62 rfl)) rfl tk)) (pss_nil))
       (pss_one (ps_ret (pe_dget (hu_of hr) (pe_fld (pv 0) rfl) (pv 1) (fun _ _ => rfl)))))
   (fun vs H Q E h => by
    obtain ⟨_, _, rfl, h⟩ := h
    haveI : HasCls K "Slot" := ⟨He.cls_ok (c.fact 0 rfl)⟩
    haveI : HasCls K "Even" := ⟨He.cls_ok (c.fact 1 rfl)⟩
    haveI : HasNo K "Even" "noughts" := ⟨He.noat_ok (c.fact 2 rfl)⟩
    haveI : HasNo K "Even" "ones" := ⟨He.noat_ok (c.fact 3 rfl)⟩
    haveI : HasCls K "Quick" := ⟨He.cls_ok (c.fact 4 rfl)⟩
    haveI : HasNo K "Quick" "held" := ⟨He.noat_ok (c.fact 5 rfl)⟩
    haveI : HasCls K "Run" := ⟨He.cls_ok (c.fact 6 rfl)⟩
    haveI : HasNo K "Run" "last" := ⟨He.noat_ok (c.fact 7 rfl)⟩
    haveI : HasNo K "Run" "length" := ⟨He.noat_ok (c.fact 8 rfl)⟩
    haveI : HasCls K "Book" := ⟨He.cls_ok (c.fact 9 rfl)⟩
    haveI : HasNo K "Book" "look" := ⟨He.noat_ok (c.fact 10 rfl)⟩
    haveI : HasNo K "Book" "slots" := ⟨He.noat_ok (c.fact 11 rfl)⟩
    haveI : HasCls K "Mixer" := ⟨He.cls_ok (c.fact 12 rfl)⟩
    haveI : HasNo K "Mixer" "shares" := ⟨He.noat_ok (c.fact 13 rfl)⟩
    haveI : HasCls K "Foreteller" := ⟨He.cls_ok (c.fact 14 rfl)⟩
    haveI : HasNo K "Foreteller" "kinds" := ⟨He.noat_ok (c.fact 15 rfl)⟩
    haveI : HasNo K "Foreteller" "books" := ⟨He.noat_ok (c.fact 16 rfl)⟩
    haveI : HasNo K "Foreteller" "mixer" := ⟨He.noat_ok (c.fact 17 rfl)⟩
    haveI : HasNo K "Foreteller" "ended" := ⟨He.noat_ok (c.fact 18 rfl)⟩
    haveI : HasNo K "Foreteller" "place" := ⟨He.noat_ok (c.fact 19 rfl)⟩
    haveI : HasNo K "Foreteller" "past" := ⟨He.noat_ok (c.fact 20 rfl)⟩
    haveI : HasCls K "Span" := ⟨He.cls_ok (c.fact 21 rfl)⟩
    haveI : HasNo K "Span" "low" := ⟨He.noat_ok (c.fact 22 rfl)⟩
    haveI : HasNo K "Span" "width" := ⟨He.noat_ok (c.fact 23 rfl)⟩
    haveI : HasNo K "Span" "size" := ⟨He.noat_ok (c.fact 24 rfl)⟩
    haveI : HasCls K "Seeker" := ⟨He.cls_ok (c.fact 25 rfl)⟩
    haveI : HasNo K "Seeker" "row" := ⟨He.noat_ok (c.fact 26 rfl)⟩
    haveI : HasNo K "Seeker" "span" := ⟨He.noat_ok (c.fact 27 rfl)⟩
    haveI : HasNo K "Seeker" "number" := ⟨He.noat_ok (c.fact 28 rfl)⟩
    haveI : HasNo K "Seeker" "taken" := ⟨He.noat_ok (c.fact 29 rfl)⟩
    haveI : HasCls K "Store" := ⟨He.cls_ok (c.fact 30 rfl)⟩
    haveI : HasNo K "Store" "kinds" := ⟨He.noat_ok (c.fact 31 rfl)⟩
    haveI : HasNo K "Store" "longest" := ⟨He.noat_ok (c.fact 32 rfl)⟩
    haveI : HasNo K "Store" "pieces" := ⟨He.noat_ok (c.fact 33 rfl)⟩
    haveI : HasTup K "KINDS" [.str "even", .str "quick", .str "run"] := tup_ok (c.ext 0 rfl)
    exact pure_Store_sought_piece K h)
theorem cb_are_signs (KX : K.In h) (G : h.Ns mainGlobals mg) (c : SaysX fa fn xf K) : Cb P w K mg base 3 (He.fAd K ("are_signs", none)) ["thing", "most"] [] (sp_are_signs K) :=
  cb_of (T := t_are_signs K) (c.def_ 4 rfl) sc_are_signs (fun vs H Q E h => by
    obtain ⟨_, _, rfl, _⟩ := h
    rfl) (fun _ _ _ _ _ _ us hl => match us, hl with | [_, _], _ => rfl)
   (fun cdv A outer s H E hr => by
    have nd := sc_are_signs.nd
    have ho := out_def (cxD_takes (P := P) (w := w) (K := K) (mg := mg) (base := base) (N := N_are_signs) (qual := "are_signs") (st := s_are_signs) (f := He.fAd K ("are_signs", none)) (cdv := cdv) (A := A) (outer := outer) (s := s) (H := H) (E := E))
    have tk := cxD_takes (P := P) (w := w) (K := K) (mg := mg) (base := base) (N := N_are_signs) (qual := "are_signs") (st := s_are_signs) (f := He.fAd K ("are_signs", none)) (cdv := cdv) (A := A) (outer := outer) (s := s) (H := H) (E := E)
    have pz := cxD_passes (P := P) (w := w) (K := K) (mg := mg) (base := base) (N := N_are_signs) (qual := "are_signs") (st := s_are_signs) (f := He.fAd K ("are_signs", none)) (cdv := cdv) (A := A) (outer := outer) (s := s) (H := H) (E := E)
    exact pss_cons (ps_if (PW.pt (pw_or (pt_not (pt_tru (pe_callB c_isi (by rfl) (He.free_ok KX G (c.fact 34 rfl)) (by decide +kernel) (pa_cons (pv 0) (pa_cons (pe_gty (He.free_ok KX G (c.fact 44 rfl)) (by decide +kernel)) (pa_nil)))))) (pw_or1 (pt_cmpR o_gt (pe_callB c_len (by rfl) (He.free_ok KX G (c.fact 38 rfl)) (by decide +kernel) (pa_cons (pv 0) (pa_nil))) (pv 1) (nomark _))))) (pss_one (ps_ret (pe_bl))) (pss_nil))
       (pss_one (ps_ret (pe_callB (c_all rfl) (by rfl) (He.free_ok KX G (c.fact 63 rfl)) (by decide +kernel) (pa_cons (pe_lc (own := [("sign", 2)]) (g := gName 2) (tt := tYes) rfl nd (pi_list (pv 0)) (blkOk_by (N := N_are_signs) (sc := defScope s_are_signs) (by decide +kernel)) (fun _ _ _ _ _ => pg_name (i := 2) nd rfl (by first | exact Or.inl rfl | exact Or.inr rfl)) (fun _ _ _ _ _ => pts_nil) (fun _ _ _ _ _ => pe_fun (cb_is_sign KX G c) (hr.mono (by decide)) (He.glo_ok KX G (c.fact 64 rfl)) out_none (pa_cons (pv 2) (pa_nil)))) (pa_nil))))))
   (fun vs H Q E h => by
    obtain ⟨_, _, rfl, h⟩ := h
    haveI : HasCls K "Slot" := ⟨He.cls_ok (c.fact 0 rfl)⟩
    haveI : HasCls K "Even" := ⟨He.cls_ok (c.fact 1 rfl)⟩
    haveI : HasNo K "Even" "noughts" := ⟨He.noat_ok (c.fact 2 rfl)⟩
    haveI : HasNo K "Even" "ones" := ⟨He.noat_ok (c.fact 3 rfl)⟩
    haveI : HasCls K "Quick" := ⟨He.cls_ok (c.fact 4 rfl)⟩
    haveI : HasNo K "Quick" "held" := ⟨He.noat_ok (c.fact 5 rfl)⟩
    haveI : HasCls K "Run" := ⟨He.cls_ok (c.fact 6 rfl)⟩
    haveI : HasNo K "Run" "last" := ⟨He.noat_ok (c.fact 7 rfl)⟩
    haveI : HasNo K "Run" "length" := ⟨He.noat_ok (c.fact 8 rfl)⟩
    haveI : HasCls K "Book" := ⟨He.cls_ok (c.fact 9 rfl)⟩
    haveI : HasNo K "Book" "look" := ⟨He.noat_ok (c.fact 10 rfl)⟩
    haveI : HasNo K "Book" "slots" := ⟨He.noat_ok (c.fact 11 rfl)⟩
    haveI : HasCls K "Mixer" := ⟨He.cls_ok (c.fact 12 rfl)⟩
    haveI : HasNo K "Mixer" "shares" := ⟨He.noat_ok (c.fact 13 rfl)⟩
    haveI : HasCls K "Foreteller" := ⟨He.cls_ok (c.fact 14 rfl)⟩
    haveI : HasNo K "Foreteller" "kinds" := ⟨He.noat_ok (c.fact 15 rfl)⟩
    haveI : HasNo K "Foreteller" "books" := ⟨He.noat_ok (c.fact 16 rfl)⟩
    haveI : HasNo K "Foreteller" "mixer" := ⟨He.noat_ok (c.fact 17 rfl)⟩
    haveI : HasNo K "Foreteller" "ended" := ⟨He.noat_ok (c.fact 18 rfl)⟩
    haveI : HasNo K "Foreteller" "place" := ⟨He.noat_ok (c.fact 19 rfl)⟩
    haveI : HasNo K "Foreteller" "past" := ⟨He.noat_ok (c.fact 20 rfl)⟩
    haveI : HasCls K "Span" := ⟨He.cls_ok (c.fact 21 rfl)⟩
    haveI : HasNo K "Span" "low" := ⟨He.noat_ok (c.fact 22 rfl)⟩
    haveI : HasNo K "Span" "width" := ⟨He.noat_ok (c.fact 23 rfl)⟩
    haveI : HasNo K "Span" "size" := ⟨He.noat_ok (c.fact 24 rfl)⟩
    haveI : HasCls K "Seeker" := ⟨He.cls_ok (c.fact 25 rfl)⟩
    haveI : HasNo K "Seeker" "row" := ⟨He.noat_ok (c.fact 26 rfl)⟩
    haveI : HasNo K "Seeker" "span" := ⟨He.noat_ok (c.fact 27 rfl)⟩
    haveI : HasNo K "Seeker" "number" := ⟨He.noat_ok (c.fact 28 rfl)⟩
    haveI : HasNo K "Seeker" "taken" := ⟨He.noat_ok (c.fact 29 rfl)⟩
    haveI : HasCls K "Store" := ⟨He.cls_ok (c.fact 30 rfl)⟩
    haveI : HasNo K "Store" "kinds" := ⟨He.noat_ok (c.fact 31 rfl)⟩
    haveI : HasNo K "Store" "longest" := ⟨He.noat_ok (c.fact 32 rfl)⟩
    haveI : HasNo K "Store" "pieces" := ⟨He.noat_ok (c.fact 33 rfl)⟩
    haveI : HasTup K "KINDS" [.str "even", .str "quick", .str "run"] := tup_ok (c.ext 0 rfl)
    exact pure_are_signs K h)
theorem cb_checked_bit (KX : K.In h) (G : h.Ns mainGlobals mg) (c : SaysX fa fn xf K) : Cb P w K mg base 3 (He.fAd K ("checked_bit", none)) ["thing"] [] (sp_checked_bit K) :=
  cb_of (T := t_checked_bit K) (c.def_ 7 rfl) sc_checked_bit (fun vs H Q E h => by
    obtain ⟨_, rfl, _⟩ := h
    rfl) (fun _ _ _ _ _ _ us hl => match us, hl with | [_], _ => rfl)
   (fun cdv A outer s H E hr => by
    have nd := sc_checked_bit.nd
    have ho := out_def (cxD_takes (P := P) (w := w) (K := K) (mg := mg) (base := base) (N := N_checked_bit) (qual := "checked_bit") (st := s_checked_bit) (f := He.fAd K ("checked_bit", none)) (cdv := cdv) (A := A) (outer := outer) (s := s) (H := H) (E := E))
    have tk := cxD_takes (P := P) (w := w) (K := K) (mg := mg) (base := base) (N := N_checked_bit) (qual := "checked_bit") (st := s_checked_bit) (f := He.fAd K ("checked_bit", none)) (cdv := cdv) (A := A) (outer := outer) (s := s) (H := H) (E := E)
    have pz := cxD_passes (P := P) (w := w) (K := K) (mg := mg) (base := base) (N := N_checked_bit) (qual := "checked_bit") (st := s_checked_bit) (f := He.fAd K ("checked_bit", none)) (cdv := cdv) (A := A) (outer := outer) (s := s) (H := H) (E := E)
    exact pss_cons (ps_if (pt_not (pt_tru (pe_fun (cb_is_bit KX G c) (hr.mono (by decide)) (He.glo_ok KX G (c.fact 65 rfl)) ho (pa_cons (pv 0) (pa_nil))))) (pss_one (ps_rz (exn_ok KX G (c.fact 66 rfl) (c.fact 67 rfl)) rfl tk)) (pss_nil))
       (pss_one (ps_ret (pv 0))))
   (fun vs H Q E h => by
    obtain ⟨_, rfl, h⟩ := h
    haveI : HasCls K "Slot" := ⟨He.cls_ok (c.fact 0 rfl)⟩
    haveI : HasCls K "Even" := ⟨He.cls_ok (c.fact 1 rfl)⟩
    haveI : HasNo K "Even" "noughts" := ⟨He.noat_ok (c.fact 2 rfl)⟩
    haveI : HasNo K "Even" "ones" := ⟨He.noat_ok (c.fact 3 rfl)⟩
    haveI : HasCls K "Quick" := ⟨He.cls_ok (c.fact 4 rfl)⟩
    haveI : HasNo K "Quick" "held" := ⟨He.noat_ok (c.fact 5 rfl)⟩
    haveI : HasCls K "Run" := ⟨He.cls_ok (c.fact 6 rfl)⟩
    haveI : HasNo K "Run" "last" := ⟨He.noat_ok (c.fact 7 rfl)⟩
    haveI : HasNo K "Run" "length" := ⟨He.noat_ok (c.fact 8 rfl)⟩
    haveI : HasCls K "Book" := ⟨He.cls_ok (c.fact 9 rfl)⟩
    haveI : HasNo K "Book" "look" := ⟨He.noat_ok (c.fact 10 rfl)⟩
    haveI : HasNo K "Book" "slots" := ⟨He.noat_ok (c.fact 11 rfl)⟩
    haveI : HasCls K "Mixer" := ⟨He.cls_ok (c.fact 12 rfl)⟩
    haveI : HasNo K "Mixer" "shares" := ⟨He.noat_ok (c.fact 13 rfl)⟩
    haveI : HasCls K "Foreteller" := ⟨He.cls_ok (c.fact 14 rfl)⟩
    haveI : HasNo K "Foreteller" "kinds" := ⟨He.noat_ok (c.fact 15 rfl)⟩
    haveI : HasNo K "Foreteller" "books" := ⟨He.noat_ok (c.fact 16 rfl)⟩
    haveI : HasNo K "Foreteller" "mixer" := ⟨He.noat_ok (c.fact 17 rfl)⟩
    haveI : HasNo K "Foreteller" "ended" := ⟨He.noat_ok (c.fact 18 rfl)⟩
    haveI : HasNo K "Foreteller" "place" := ⟨He.noat_ok (c.fact 19 rfl)⟩
    haveI : HasNo K "Foreteller" "past" := ⟨He.noat_ok (c.fact 20 rfl)⟩
    haveI : HasCls K "Span" := ⟨He.cls_ok (c.fact 21 rfl)⟩
    haveI : HasNo K "Span" "low" := ⟨He.noat_ok (c.fact 22 rfl)⟩
    haveI : HasNo K "Span" "width" := ⟨He.noat_ok (c.fact 23 rfl)⟩
    haveI : HasNo K "Span" "size" := ⟨He.noat_ok (c.fact 24 rfl)⟩
    haveI : HasCls K "Seeker" := ⟨He.cls_ok (c.fact 25 rfl)⟩
    haveI : HasNo K "Seeker" "row" := ⟨He.noat_ok (c.fact 26 rfl)⟩
    haveI : HasNo K "Seeker" "span" := ⟨He.noat_ok (c.fact 27 rfl)⟩
    haveI : HasNo K "Seeker" "number" := ⟨He.noat_ok (c.fact 28 rfl)⟩
    haveI : HasNo K "Seeker" "taken" := ⟨He.noat_ok (c.fact 29 rfl)⟩
    haveI : HasCls K "Store" := ⟨He.cls_ok (c.fact 30 rfl)⟩
    haveI : HasNo K "Store" "kinds" := ⟨He.noat_ok (c.fact 31 rfl)⟩
    haveI : HasNo K "Store" "longest" := ⟨He.noat_ok (c.fact 32 rfl)⟩
    haveI : HasNo K "Store" "pieces" := ⟨He.noat_ok (c.fact 33 rfl)⟩
    haveI : HasTup K "KINDS" [.str "even", .str "quick", .str "run"] := tup_ok (c.ext 0 rfl)
    exact pure_checked_bit K h)
theorem cb_checked_chance (KX : K.In h) (G : h.Ns mainGlobals mg) (c : SaysX fa fn xf K) : Cb P w K mg base 3 (He.fAd K ("checked_chance", none)) ["thing"] [] (sp_checked_chance K) :=
  cb_of (T := t_checked_chance K) (c.def_ 8 rfl) sc_checked_chance (fun vs H Q E h => by
    obtain ⟨_, rfl, _⟩ := h
    rfl) (fun _ _ _ _ _ _ us hl => match us, hl with | [_], _ => rfl)
   (fun cdv A outer s H E hr => by
    have nd := sc_checked_chance.nd
    have ho := out_def (cxD_takes (P := P) (w := w) (K := K) (mg := mg) (base := base) (N := N_checked_chance) (qual := "checked_chance") (st := s_checked_chance) (f := He.fAd K ("checked_chance", none)) (cdv := cdv) (A := A) (outer := outer) (s := s) (H := H) (E := E))
    have tk := cxD_takes (P := P) (w := w) (K := K) (mg := mg) (base := base) (N := N_checked_chance) (qual := "checked_chance") (st := s_checked_chance) (f := He.fAd K ("checked_chance", none)) (cdv := cdv) (A := A) (outer := outer) (s := s) (H := H) (E := E)
    have pz := cxD_passes (P := P) (w := w) (K := K) (mg := mg) (base := base) (N := N_checked_chance) (qual := "checked_chance") (st := s_checked_chance) (f := He.fAd K ("checked_chance", none)) (cdv := cdv) (A := A) (outer := outer) (s := s) (H := H) (E := E)
    exact pss_cons (ps_if (pt_not (pt_tru (pe_fun (cb_is_chance KX G c) (hr.mono (by decide)) (He.glo_ok KX G (c.fact 68 rfl)) ho (pa_cons (pv 0) (pa_nil))))) (pss_one (ps_rz (exn_ok KX G (c.fact 69 rfl) (c.fact 70 rfl)) rfl tk)) (pss_nil))
       (pss_one (ps_ret (pv 0))))
   (fun vs H Q E h => by
    obtain ⟨_, rfl, h⟩ := h
    haveI : HasCls K "Slot" := ⟨He.cls_ok (c.fact 0 rfl)⟩
    haveI : HasCls K "Even" := ⟨He.cls_ok (c.fact 1 rfl)⟩
    haveI : HasNo K "Even" "noughts" := ⟨He.noat_ok (c.fact 2 rfl)⟩
    haveI : HasNo K "Even" "ones" := ⟨He.noat_ok (c.fact 3 rfl)⟩
    haveI : HasCls K "Quick" := ⟨He.cls_ok (c.fact 4 rfl)⟩
    haveI : HasNo K "Quick" "held" := ⟨He.noat_ok (c.fact 5 rfl)⟩
    haveI : HasCls K "Run" := ⟨He.cls_ok (c.fact 6 rfl)⟩
    haveI : HasNo K "Run" "last" := ⟨He.noat_ok (c.fact 7 rfl)⟩
    haveI : HasNo K "Run" "length" := ⟨He.noat_ok (c.fact 8 rfl)⟩
    haveI : HasCls K "Book" := ⟨He.cls_ok (c.fact 9 rfl)⟩
    haveI : HasNo K "Book" "look" := ⟨He.noat_ok (c.fact 10 rfl)⟩
    haveI : HasNo K "Book" "slots" := ⟨He.noat_ok (c.fact 11 rfl)⟩
    haveI : HasCls K "Mixer" := ⟨He.cls_ok (c.fact 12 rfl)⟩
    haveI : HasNo K "Mixer" "shares" := ⟨He.noat_ok (c.fact 13 rfl)⟩
    haveI : HasCls K "Foreteller" := ⟨He.cls_ok (c.fact 14 rfl)⟩
    haveI : HasNo K "Foreteller" "kinds" := ⟨He.noat_ok (c.fact 15 rfl)⟩
    haveI : HasNo K "Foreteller" "books" := ⟨He.noat_ok (c.fact 16 rfl)⟩
    haveI : HasNo K "Foreteller" "mixer" := ⟨He.noat_ok (c.fact 17 rfl)⟩
    haveI : HasNo K "Foreteller" "ended" := ⟨He.noat_ok (c.fact 18 rfl)⟩
    haveI : HasNo K "Foreteller" "place" := ⟨He.noat_ok (c.fact 19 rfl)⟩
    haveI : HasNo K "Foreteller" "past" := ⟨He.noat_ok (c.fact 20 rfl)⟩
    haveI : HasCls K "Span" := ⟨He.cls_ok (c.fact 21 rfl)⟩
    haveI : HasNo K "Span" "low" := ⟨He.noat_ok (c.fact 22 rfl)⟩
    haveI : HasNo K "Span" "width" := ⟨He.noat_ok (c.fact 23 rfl)⟩
    haveI : HasNo K "Span" "size" := ⟨He.noat_ok (c.fact 24 rfl)⟩
    haveI : HasCls K "Seeker" := ⟨He.cls_ok (c.fact 25 rfl)⟩
    haveI : HasNo K "Seeker" "row" := ⟨He.noat_ok (c.fact 26 rfl)⟩
    haveI : HasNo K "Seeker" "span" := ⟨He.noat_ok (c.fact 27 rfl)⟩
    haveI : HasNo K "Seeker" "number" := ⟨He.noat_ok (c.fact 28 rfl)⟩
    haveI : HasNo K "Seeker" "taken" := ⟨He.noat_ok (c.fact 29 rfl)⟩
    haveI : HasCls K "Store" := ⟨He.cls_ok (c.fact 30 rfl)⟩
    haveI : HasNo K "Store" "kinds" := ⟨He.noat_ok (c.fact 31 rfl)⟩
    haveI : HasNo K "Store" "longest" := ⟨He.noat_ok (c.fact 32 rfl)⟩
    haveI : HasNo K "Store" "pieces" := ⟨He.noat_ok (c.fact 33 rfl)⟩
    haveI : HasTup K "KINDS" [.str "even", .str "quick", .str "run"] := tup_ok (c.ext 0 rfl)
    exact pure_checked_chance K h)
theorem cb_slot_of (KX : K.In h) (G : h.Ns mainGlobals mg) (c : SaysX fa fn xf K) : Cb P w K mg base 3 (He.fAd K ("slot_of", none)) ["kind"] [] (sp_slot_of K) :=
  cb_of (T := t_slot_of K) (c.def_ 20 rfl) sc_slot_of (fun vs H Q E h => by
    obtain ⟨_, rfl, _⟩ := h
    rfl) (fun _ _ _ _ _ _ us hl => match us, hl with | [_], _ => rfl)
   (fun cdv A outer s H E hr => by
    have nd := sc_slot_of.nd
    have ho := out_def (cxD_takes (P := P) (w := w) (K := K) (mg := mg) (base := base) (N := N_slot_of) (qual := "slot_of") (st := s_slot_of) (f := He.fAd K ("slot_of", none)) (cdv := cdv) (A := A) (outer := outer) (s := s) (H := H) (E := E))
    have tk := cxD_takes (P := P) (w := w) (K := K) (mg := mg) (base := base) (N := N_slot_of) (qual := "slot_of") (st := s_slot_of) (f := He.fAd K ("slot_of", none)) (cdv := cdv) (A := A) (outer := outer) (s := s) (H := H) (E := E)
    have pz := cxD_passes (P := P) (w := w) (K := K) (mg := mg) (base := base) (N := N_slot_of) (qual := "slot_of") (st := s_slot_of) (f := He.fAd K ("slot_of", none)) (cdv := cdv) (A := A) (outer := outer) (s := s) (H := H) (E := E)
    exact pss_cons (ps_if (pt_cmpR (o_same hr.units) (pv 0) (pe_str) (nomark _)) (pss_one (ps_ret (pe_new0 (He.mkr_ok (c.fact 74 rfl)) (cb_Even_init KX G c) (hr.mono (by decide)) (He.glo_ok KX G (c.fact 71 rfl)) ho))) (pss_nil))
       (pss_cons (ps_if (pt_cmpR (o_same hr.units) (pv 0) (pe_str) (nomark _)) (pss_one (ps_ret (pe_new0 (He.mkr_ok (c.fact 75 rfl)) (cb_Quick_init KX G c) (hr.mono (by decide)) (He.glo_ok KX G (c.fact 72 rfl)) ho))) (pss_nil))
       (pss_one (ps_ret (pe_new0 (He.mkr_ok (c.fact 76 rfl)) (cb_Run_init KX G c) (hr.mono (by decide)) (He.glo_ok KX G (c.fact 73 rfl)) ho)))))
   (fun vs H Q E h => by
    obtain ⟨_, rfl, h⟩ := h
    haveI : HasCls K "Slot" := ⟨He.cls_ok (c.fact 0 rfl)⟩
    haveI : HasCls K "Even" := ⟨He.cls_ok (c.fact 1 rfl)⟩
    haveI : HasNo K "Even" "noughts" := ⟨He.noat_ok (c.fact 2 rfl)⟩
    haveI : HasNo K "Even" "ones" := ⟨He.noat_ok (c.fact 3 rfl)⟩
    haveI : HasCls K "Quick" := ⟨He.cls_ok (c.fact 4 rfl)⟩
    haveI : HasNo K "Quick" "held" := ⟨He.noat_ok (c.fact 5 rfl)⟩
    haveI : HasCls K "Run" := ⟨He.cls_ok (c.fact 6 rfl)⟩
    haveI : HasNo K "Run" "last" := ⟨He.noat_ok (c.fact 7 rfl)⟩
    haveI : HasNo K "Run" "length" := ⟨He.noat_ok (c.fact 8 rfl)⟩
    haveI : HasCls K "Book" := ⟨He.cls_ok (c.fact 9 rfl)⟩
    haveI : HasNo K "Book" "look" := ⟨He.noat_ok (c.fact 10 rfl)⟩
    haveI : HasNo K "Book" "slots" := ⟨He.noat_ok (c.fact 11 rfl)⟩
    haveI : HasCls K "Mixer" := ⟨He.cls_ok (c.fact 12 rfl)⟩
    haveI : HasNo K "Mixer" "shares" := ⟨He.noat_ok (c.fact 13 rfl)⟩
    haveI : HasCls K "Foreteller" := ⟨He.cls_ok (c.fact 14 rfl)⟩
    haveI : HasNo K "Foreteller" "kinds" := ⟨He.noat_ok (c.fact 15 rfl)⟩
    haveI : HasNo K "Foreteller" "books" := ⟨He.noat_ok (c.fact 16 rfl)⟩
    haveI : HasNo K "Foreteller" "mixer" := ⟨He.noat_ok (c.fact 17 rfl)⟩
    haveI : HasNo K "Foreteller" "ended" := ⟨He.noat_ok (c.fact 18 rfl)⟩
    haveI : HasNo K "Foreteller" "place" := ⟨He.noat_ok (c.fact 19 rfl)⟩
    haveI : HasNo K "Foreteller" "past" := ⟨He.noat_ok (c.fact 20 rfl)⟩
    haveI : HasCls K "Span" := ⟨He.cls_ok (c.fact 21 rfl)⟩
    haveI : HasNo K "Span" "low" := ⟨He.noat_ok (c.fact 22 rfl)⟩
    haveI : HasNo K "Span" "width" := ⟨He.noat_ok (c.fact 23 rfl)⟩
    haveI : HasNo K "Span" "size" := ⟨He.noat_ok (c.fact 24 rfl)⟩
    haveI : HasCls K "Seeker" := ⟨He.cls_ok (c.fact 25 rfl)⟩
    haveI : HasNo K "Seeker" "row" := ⟨He.noat_ok (c.fact 26 rfl)⟩
    haveI : HasNo K "Seeker" "span" := ⟨He.noat_ok (c.fact 27 rfl)⟩
    haveI : HasNo K "Seeker" "number" := ⟨He.noat_ok (c.fact 28 rfl)⟩
    haveI : HasNo K "Seeker" "taken" := ⟨He.noat_ok (c.fact 29 rfl)⟩
    haveI : HasCls K "Store" := ⟨He.cls_ok (c.fact 30 rfl)⟩
    haveI : HasNo K "Store" "kinds" := ⟨He.noat_ok (c.fact 31 rfl)⟩
    haveI : HasNo K "Store" "longest" := ⟨He.noat_ok (c.fact 32 rfl)⟩
    haveI : HasNo K "Store" "pieces" := ⟨He.noat_ok (c.fact 33 rfl)⟩
    haveI : HasTup K "KINDS" [.str "even", .str "quick", .str "run"] := tup_ok (c.ext 0 rfl)
    exact pure_slot_of K h)
theorem cb_is_look (KX : K.In h) (G : h.Ns mainGlobals mg) (c : SaysX fa fn xf K) : Cb P w K mg base 3 (He.fAd K ("is_look", none)) ["thing"] [] (sp_is_look K) :=
  cb_of (T := t_is_look K) (c.def_ 22 rfl) sc_is_look (fun vs H Q E h => by
    obtain ⟨_, rfl, _⟩ := h
    rfl) (fun _ _ _ _ _ _ us hl => match us, hl with | [_], _ => rfl)
   (fun cdv A outer s H E hr => by
    have nd := sc_is_look.nd
    have ho := out_def (cxD_takes (P := P) (w := w) (K := K) (mg := mg) (base := base) (N := N_is_look) (qual := "is_look") (st := s_is_look) (f := He.fAd K ("is_look", none)) (cdv := cdv) (A := A) (outer := outer) (s := s) (H := H) (E := E))
    have tk := cxD_takes (P := P) (w := w) (K := K) (mg := mg) (base := base) (N := N_is_look) (qual := "is_look") (st := s_is_look) (f := He.fAd K ("is_look", none)) (cdv := cdv) (A := A) (outer := outer) (s := s) (H := H) (E := E)
    have pz := cxD_passes (P := P) (w := w) (K := K) (mg := mg) (base := base) (N := N_is_look) (qual := "is_look") (st := s_is_look) (f := He.fAd K ("is_look", none)) (cdv := cdv) (A := A) (outer := outer) (s := s) (H := H) (E := E)
    exact pss_cons (ps_if (PW.pt (pw_or (pt_not (pt_tru (pe_callB c_isi (by rfl) (He.free_ok KX G (c.fact 34 rfl)) (by decide +kernel) (pa_cons (pv 0) (pa_cons (pe_gty (He.free_ok KX G (c.fact 39 rfl)) (by decide +kernel)) (pa_nil)))))) (pw_or1 (pt_cmpR (o_diff hr.units) (pe_callB c_len (by rfl) (He.free_ok KX G (c.fact 38 rfl)) (by decide +kernel) (pa_cons (pv 0) (pa_nil))) (pe_int) (nomark _))))) (pss_one (ps_ret (pe_bl))) (pss_nil))
       (pss_one (ps_ret (pe_and (pe_callB c_isi (by rfl) (He.free_ok KX G (c.fact 34 rfl)) (by decide +kernel) (pa_cons (pe_ix ix_seq (pv 0) (pe_int) (fun _ _ => rfl)) (pa_cons (pe_gty (He.free_ok KX G (c.fact 47 rfl)) (by decide +kernel)) (pa_nil)))) (pe_and (pe_cmpR o_among (pe_ix ix_seq (pv 0) (pe_int) (fun _ _ => rfl)) (pe_gref (He.glo_ok KX G (c.fact 77 rfl))) rfl) (pe_one (pe_fun (cb_are_places KX G c) (hr.mono (by decide)) (He.glo_ok KX G (c.fact 78 rfl)) ho (pa_cons (pe_ix ix_seq (pv 0) (pe_int) (fun _ _ => rfl)) (pa_nil)))))))))
   (fun vs H Q E h => by
    obtain ⟨_, rfl, h⟩ := h
    haveI : HasCls K "Slot" := ⟨He.cls_ok (c.fact 0 rfl)⟩
    haveI : HasCls K "Even" := ⟨He.cls_ok (c.fact 1 rfl)⟩
    haveI : HasNo K "Even" "noughts" := ⟨He.noat_ok (c.fact 2 rfl)⟩
    haveI : HasNo K "Even" "ones" := ⟨He.noat_ok (c.fact 3 rfl)⟩
    haveI : HasCls K "Quick" := ⟨He.cls_ok (c.fact 4 rfl)⟩
    haveI : HasNo K "Quick" "held" := ⟨He.noat_ok (c.fact 5 rfl)⟩
    haveI : HasCls K "Run" := ⟨He.cls_ok (c.fact 6 rfl)⟩
    haveI : HasNo K "Run" "last" := ⟨He.noat_ok (c.fact 7 rfl)⟩
    haveI : HasNo K "Run" "length" := ⟨He.noat_ok (c.fact 8 rfl)⟩
    haveI : HasCls K "Book" := ⟨He.cls_ok (c.fact 9 rfl)⟩
    haveI : HasNo K "Book" "look" := ⟨He.noat_ok (c.fact 10 rfl)⟩
    haveI : HasNo K "Book" "slots" := ⟨He.noat_ok (c.fact 11 rfl)⟩
    haveI : HasCls K "Mixer" := ⟨He.cls_ok (c.fact 12 rfl)⟩
    haveI : HasNo K "Mixer" "shares" := ⟨He.noat_ok (c.fact 13 rfl)⟩
    haveI : HasCls K "Foreteller" := ⟨He.cls_ok (c.fact 14 rfl)⟩
    haveI : HasNo K "Foreteller" "kinds" := ⟨He.noat_ok (c.fact 15 rfl)⟩
    haveI : HasNo K "Foreteller" "books" := ⟨He.noat_ok (c.fact 16 rfl)⟩
    haveI : HasNo K "Foreteller" "mixer" := ⟨He.noat_ok (c.fact 17 rfl)⟩
    haveI : HasNo K "Foreteller" "ended" := ⟨He.noat_ok (c.fact 18 rfl)⟩
    haveI : HasNo K "Foreteller" "place" := ⟨He.noat_ok (c.fact 19 rfl)⟩
    haveI : HasNo K "Foreteller" "past" := ⟨He.noat_ok (c.fact 20 rfl)⟩
    haveI : HasCls K "Span" := ⟨He.cls_ok (c.fact 21 rfl)⟩
    haveI : HasNo K "Span" "low" := ⟨He.noat_ok (c.fact 22 rfl)⟩
    haveI : HasNo K "Span" "width" := ⟨He.noat_ok (c.fact 23 rfl)⟩
    haveI : HasNo K "Span" "size" := ⟨He.noat_ok (c.fact 24 rfl)⟩
    haveI : HasCls K "Seeker" := ⟨He.cls_ok (c.fact 25 rfl)⟩
    haveI : HasNo K "Seeker" "row" := ⟨He.noat_ok (c.fact 26 rfl)⟩
    haveI : HasNo K "Seeker" "span" := ⟨He.noat_ok (c.fact 27 rfl)⟩
    haveI : HasNo K "Seeker" "number" := ⟨He.noat_ok (c.fact 28 rfl)⟩
    haveI : HasNo K "Seeker" "taken" := ⟨He.noat_ok (c.fact 29 rfl)⟩
    haveI : HasCls K "Store" := ⟨He.cls_ok (c.fact 30 rfl)⟩
    haveI : HasNo K "Store" "kinds" := ⟨He.noat_ok (c.fact 31 rfl)⟩
    haveI : HasNo K "Store" "longest" := ⟨He.noat_ok (c.fact 32 rfl)⟩
    haveI : HasNo K "Store" "pieces" := ⟨He.noat_ok (c.fact 33 rfl)⟩
    haveI : HasTup K "KINDS" [.str "even", .str "quick", .str "run"] := tup_ok (c.ext 0 rfl)
    exact pure_is_look K h)
theorem cb_Seeker_told (KX : K.In h) (G : h.Ns mainGlobals mg) (c : SaysX fa fn xf K) : Cb P w K mg base 3 (He.fAd K ("Seeker", some "told")) ["self"] [] (sp_Seeker_told K) :=
  cb_of (T := t_Seeker_told K) (c.def_ 48 rfl) sc_Seeker_told (fun vs H Q E h => by
    obtain ⟨_, rfl, _⟩ := h
    rfl) (fun _ _ _ _ _ _ us hl => match us, hl with | [_], _ => rfl)
   (fun cdv A outer s H E hr => by
    have nd := sc_Seeker_told.nd
    have ho := out_def (cxD_takes (P := P) (w := w) (K := K) (mg := mg) (base := base) (N := N_Seeker_told) (qual := "Seeker.told") (st := s_Seeker_told) (f := He.fAd K ("Seeker", some "told")) (cdv := cdv) (A := A) (outer := outer) (s := s) (H := H) (E := E))
    have tk := cxD_takes (P := P) (w := w) (K := K) (mg := mg) (base := base) (N := N_Seeker_told) (qual := "Seeker.told") (st := s_Seeker_told) (f := He.fAd K ("Seeker", some "told")) (cdv := cdv) (A := A) (outer := outer) (s := s) (H := H) (E := E)
    have pz := cxD_passes (P := P) (w := w) (K := K) (mg := mg) (base := base) (N := N_Seeker_told) (qual := "Seeker.told") (st := s_Seeker_told) (f := He.fAd K ("Seeker", some "told")) (cdv := cdv) (A := A) (outer := outer) (s := s) (H := H) (E := E)
    exact pss_one (ps_ret (pe_mth0 (k := 2) (pe_fld (pv 0) rfl) (mo_one (He.cls_ok (c.fact 21 rfl)) (He.meth_ok (c.fact 79 rfl)) (cb_Span_told KX G c) (by decide)) hr ho)))
   (fun vs H Q E h => by
    obtain ⟨_, rfl, h⟩ := h
    haveI : HasCls K "Slot" := ⟨He.cls_ok (c.fact 0 rfl)⟩
    haveI : HasCls K "Even" := ⟨He.cls_ok (c.fact 1 rfl)⟩
    haveI : HasNo K "Even" "noughts" := ⟨He.noat_ok (c.fact 2 rfl)⟩
    haveI : HasNo K "Even" "ones" := ⟨He.noat_ok (c.fact 3 rfl)⟩
    haveI : HasCls K "Quick" := ⟨He.cls_ok (c.fact 4 rfl)⟩
    haveI : HasNo K "Quick" "held" := ⟨He.noat_ok (c.fact 5 rfl)⟩
    haveI : HasCls K "Run" := ⟨He.cls_ok (c.fact 6 rfl)⟩
    haveI : HasNo K "Run" "last" := ⟨He.noat_ok (c.fact 7 rfl)⟩
    haveI : HasNo K "Run" "length" := ⟨He.noat_ok (c.fact 8 rfl)⟩
    haveI : HasCls K "Book" := ⟨He.cls_ok (c.fact 9 rfl)⟩
    haveI : HasNo K "Book" "look" := ⟨He.noat_ok (c.fact 10 rfl)⟩
    haveI : HasNo K "Book" "slots" := ⟨He.noat_ok (c.fact 11 rfl)⟩
    haveI : HasCls K "Mixer" := ⟨He.cls_ok (c.fact 12 rfl)⟩
    haveI : HasNo K "Mixer" "shares" := ⟨He.noat_ok (c.fact 13 rfl)⟩
    haveI : HasCls K "Foreteller" := ⟨He.cls_ok (c.fact 14 rfl)⟩
    haveI : HasNo K "Foreteller" "kinds" := ⟨He.noat_ok (c.fact 15 rfl)⟩
    haveI : HasNo K "Foreteller" "books" := ⟨He.noat_ok (c.fact 16 rfl)⟩
    haveI : HasNo K "Foreteller" "mixer" := ⟨He.noat_ok (c.fact 17 rfl)⟩
    haveI : HasNo K "Foreteller" "ended" := ⟨He.noat_ok (c.fact 18 rfl)⟩
    haveI : HasNo K "Foreteller" "place" := ⟨He.noat_ok (c.fact 19 rfl)⟩
    haveI : HasNo K "Foreteller" "past" := ⟨He.noat_ok (c.fact 20 rfl)⟩
    haveI : HasCls K "Span" := ⟨He.cls_ok (c.fact 21 rfl)⟩
    haveI : HasNo K "Span" "low" := ⟨He.noat_ok (c.fact 22 rfl)⟩
    haveI : HasNo K "Span" "width" := ⟨He.noat_ok (c.fact 23 rfl)⟩
    haveI : HasNo K "Span" "size" := ⟨He.noat_ok (c.fact 24 rfl)⟩
    haveI : HasCls K "Seeker" := ⟨He.cls_ok (c.fact 25 rfl)⟩
    haveI : HasNo K "Seeker" "row" := ⟨He.noat_ok (c.fact 26 rfl)⟩
    haveI : HasNo K "Seeker" "span" := ⟨He.noat_ok (c.fact 27 rfl)⟩
    haveI : HasNo K "Seeker" "number" := ⟨He.noat_ok (c.fact 28 rfl)⟩
    haveI : HasNo K "Seeker" "taken" := ⟨He.noat_ok (c.fact 29 rfl)⟩
    haveI : HasCls K "Store" := ⟨He.cls_ok (c.fact 30 rfl)⟩
    haveI : HasNo K "Store" "kinds" := ⟨He.noat_ok (c.fact 31 rfl)⟩
    haveI : HasNo K "Store" "longest" := ⟨He.noat_ok (c.fact 32 rfl)⟩
    haveI : HasNo K "Store" "pieces" := ⟨He.noat_ok (c.fact 33 rfl)⟩
    haveI : HasTup K "KINDS" [.str "even", .str "quick", .str "run"] := tup_ok (c.ext 0 rfl)
    exact pure_Seeker_told K h)
theorem cb_Store_base_of (KX : K.In h) (G : h.Ns mainGlobals mg) (c : SaysX fa fn xf K) : Cb P w K mg base 3 (He.fAd K ("Store", some "base_of")) ["self", "name"] [] (sp_Store_base_of K) :=
  cb_of (T := t_Store_base_of K) (c.def_ 59 rfl) sc_Store_base_of (fun vs H Q E h => by
    obtain ⟨_, _, rfl, _⟩ := h
    rfl) (fun _ _ _ _ _ _ us hl => match us, hl with | [_, _], _ => rfl)
   (fun cdv A outer s H E hr => by
    have nd := sc_Store_base_of.nd
    have ho := out_def (cxD_takes (P := P) (w := w) (K := K) (mg := mg) (base := base) (N := N_Store_base_of) (qual := "Store.base_of") (st := s_Store_base_of) (f := He.fAd K ("Store", some "base_of")) (cdv := cdv) (A := A) (outer := outer) (s := s) (H := H) (E := E))
    have tk := cxD_takes (P := P) (w := w) (K := K) (mg := mg) (base := base) (N := N_Store_base_of) (qual := "Store.base_of") (st := s_Store_base_of) (f := He.fAd K ("Store", some "base_of")) (cdv := cdv) (A := A) (outer := outer) (s := s) (H := H) (E := E)
    have pz := cxD_passes (P := P) (w := w) (K := K) (mg := mg) (base := base) (N := N_Store_base_of) (qual := "Store.base_of") (st := s_Store_base_of) (f := He.fAd K ("Store", some "base_of")) (cdv := cdv) (A := A) (outer := outer) (s := s) (H := H) (E := E)
    exact pss_one (ps_ret (pe_ix ix_seq (pe_mth (k := 2) (pv 0) (mo_one (He.cls_ok (c.fact 30 rfl)) (He.meth_ok (c.fact 80 rfl)) (cb_Store_sought_piece KX G c) (by decide)) hr ho (pa_cons (pv 1) (pa_nil))) (pe_int) (fun _ _ => rfl))))
   (fun vs H Q E h => by
    obtain ⟨_, _, rfl, h⟩ := h
    haveI : HasCls K "Slot" := ⟨He.cls_ok (c.fact 0 rfl)⟩
    haveI : HasCls K "Even" := ⟨He.cls_ok (c.fact 1 rfl)⟩
    haveI : HasNo K "Even" "noughts" := ⟨He.noat_ok (c.fact 2 rfl)⟩
    haveI : HasNo K "Even" "ones" := ⟨He.noat_ok (c.fact 3 rfl)⟩
    haveI : HasCls K "Quick" := ⟨He.cls_ok (c.fact 4 rfl)⟩
    haveI : HasNo K "Quick" "held" := ⟨He.noat_ok (c.fact 5 rfl)⟩
    haveI : HasCls K "Run" := ⟨He.cls_ok (c.fact 6 rfl)⟩
    haveI : HasNo K "Run" "last" := ⟨He.noat_ok (c.fact 7 rfl)⟩
    haveI : HasNo K "Run" "length" := ⟨He.noat_ok (c.fact 8 rfl)⟩
    haveI : HasCls K "Book" := ⟨He.cls_ok (c.fact 9 rfl)⟩
    haveI : HasNo K "Book" "look" := ⟨He.noat_ok (c.fact 10 rfl)⟩
    haveI : HasNo K "Book" "slots" := ⟨He.noat_ok (c.fact 11 rfl)⟩
    haveI : HasCls K "Mixer" := ⟨He.cls_ok (c.fact 12 rfl)⟩
    haveI : HasNo K "Mixer" "shares" := ⟨He.noat_ok (c.fact 13 rfl)⟩
    haveI : HasCls K "Foreteller" := ⟨He.cls_ok (c.fact 14 rfl)⟩
    haveI : HasNo K "Foreteller" "kinds" := ⟨He.noat_ok (c.fact 15 rfl)⟩
    haveI : HasNo K "Foreteller" "books" := ⟨He.noat_ok (c.fact 16 rfl)⟩
    haveI : HasNo K "Foreteller" "mixer" := ⟨He.noat_ok (c.fact 17 rfl)⟩
    haveI : HasNo K "Foreteller" "ended" := ⟨He.noat_ok (c.fact 18 rfl)⟩
    haveI : HasNo K "Foreteller" "place" := ⟨He.noat_ok (c.fact 19 rfl)⟩
    haveI : HasNo K "Foreteller" "past" := ⟨He.noat_ok (c.fact 20 rfl)⟩
    haveI : HasCls K "Span" := ⟨He.cls_ok (c.fact 21 rfl)⟩
    haveI : HasNo K "Span" "low" := ⟨He.noat_ok (c.fact 22 rfl)⟩
    haveI : HasNo K "Span" "width" := ⟨He.noat_ok (c.fact 23 rfl)⟩
    haveI : HasNo K "Span" "size" := ⟨He.noat_ok (c.fact 24 rfl)⟩
    haveI : HasCls K "Seeker" := ⟨He.cls_ok (c.fact 25 rfl)⟩
    haveI : HasNo K "Seeker" "row" := ⟨He.noat_ok (c.fact 26 rfl)⟩
    haveI : HasNo K "Seeker" "span" := ⟨He.noat_ok (c.fact 27 rfl)⟩
    haveI : HasNo K "Seeker" "number" := ⟨He.noat_ok (c.fact 28 rfl)⟩
    haveI : HasNo K "Seeker" "taken" := ⟨He.noat_ok (c.fact 29 rfl)⟩
    haveI : HasCls K "Store" := ⟨He.cls_ok (c.fact 30 rfl)⟩
    haveI : HasNo K "Store" "kinds" := ⟨He.noat_ok (c.fact 31 rfl)⟩
    haveI : HasNo K "Store" "longest" := ⟨He.noat_ok (c.fact 32 rfl)⟩
    haveI : HasNo K "Store" "pieces" := ⟨He.noat_ok (c.fact 33 rfl)⟩
    haveI : HasTup K "KINDS" [.str "even", .str "quick", .str "run"] := tup_ok (c.ext 0 rfl)
    exact pure_Store_base_of K h)
theorem cb_Store_drop (KX : K.In h) (G : h.Ns mainGlobals mg) (c : SaysX fa fn xf K) : Cb P w K mg base 3 (He.fAd K ("Store", some "drop")) ["self", "name"] [] (sp_Store_drop K) :=
  cb_of (T := t_Store_drop K) (c.def_ 61 rfl) sc_Store_drop (fun vs H Q E h => by
    obtain ⟨_, _, rfl, _⟩ := h
    rfl) (fun _ _ _ _ _ _ us hl => match us, hl with | [_, _], _ => rfl)
   (fun cdv A outer s H E hr => by
    have nd := sc_Store_drop.nd
    have ho := out_def (cxD_takes (P := P) (w := w) (K := K) (mg := mg) (base := base) (N := N_Store_drop) (qual := "Store.drop") (st := s_Store_drop) (f := He.fAd K ("Store", some "drop")) (cdv := cdv) (A := A) (outer := outer) (s := s) (H := H) (E := E))
    have tk := cxD_takes (P := P) (w := w) (K := K) (mg := mg) (base := base) (N := N_Store_drop) (qual := "Store.drop") (st := s_Store_drop) (f := He.fAd K ("Store", some "drop")) (cdv := cdv) (A := A) (outer := outer) (s := s) (H := H) (E := E)
    have pz := cxD_passes (P := P) (w := w) (K := K) (mg := mg) (base := base) (N := N_Store_drop) (qual := "Store.drop") (st := s_Store_drop) (f := He.fAd K ("Store", some "drop")) (cdv := cdv) (A := A) (outer := outer) (s := s) (H := H) (E := E)
    exact pss_cons (ps_expr (pe_mth (k := 2) (pv 0) (mo_one (He.cls_ok (c.fact 30 rfl)) (He.meth_ok (c.fact 80 rfl)) (cb_Store_sought_piece KX G c) (by decide)) hr ho (pa_cons (pv 1) (pa_nil))))
       (pss_cons (ps_lockX tk (fun WL1 tkL1 => ps_for pz rfl (pi_values (pe_fld (pv 0) rfl)) (pg_tup rfl (pgs_cons (pg_name (i := 2) nd rfl (by first | exact Or.inl rfl | exact Or.inr rfl)) (pgs_cons (pg_name (i := 3) nd rfl (by first | exact Or.inl rfl | exact Or.inr rfl)) (pgs_nil)))) (pss_one (ps_if (pt_cmpR (o_same hr.units) (pv 2) (pv 1) (nomark _)) (pss_one (ps_rz (exn_ok KX G (c.fact 81 rfl) (c.fact 82 rfl)) rfl tkL1)) (pss_nil)))))
       (pss_one (ps_expr (pe_dpop1 (pe_fld (pv 0) rfl) (pv 1) ⟨rfl, rfl, rfl, rfl⟩)))))
   (fun vs H Q E h => by
    obtain ⟨_, _, rfl, h⟩ := h
    haveI : HasCls K "Slot" := ⟨He.cls_ok (c.fact 0 rfl)⟩
    haveI : HasCls K "Even" := ⟨He.cls_ok (c.fact 1 rfl)⟩
    haveI : HasNo K "Even" "noughts" := ⟨He.noat_ok (c.fact 2 rfl)⟩
    haveI : HasNo K "Even" "ones" := ⟨He.noat_ok (c.fact 3 rfl)⟩
    haveI : HasCls K "Quick" := ⟨He.cls_ok (c.fact 4 rfl)⟩
    haveI : HasNo K "Quick" "held" := ⟨He.noat_ok (c.fact 5 rfl)⟩
    haveI : HasCls K "Run" := ⟨He.cls_ok (c.fact 6 rfl)⟩
    haveI : HasNo K "Run" "last" := ⟨He.noat_ok (c.fact 7 rfl)⟩
    haveI : HasNo K "Run" "length" := ⟨He.noat_ok (c.fact 8 rfl)⟩
    haveI : HasCls K "Book" := ⟨He.cls_ok (c.fact 9 rfl)⟩
    haveI : HasNo K "Book" "look" := ⟨He.noat_ok (c.fact 10 rfl)⟩
    haveI : HasNo K "Book" "slots" := ⟨He.noat_ok (c.fact 11 rfl)⟩
    haveI : HasCls K "Mixer" := ⟨He.cls_ok (c.fact 12 rfl)⟩
    haveI : HasNo K "Mixer" "shares" := ⟨He.noat_ok (c.fact 13 rfl)⟩
    haveI : HasCls K "Foreteller" := ⟨He.cls_ok (c.fact 14 rfl)⟩
    haveI : HasNo K "Foreteller" "kinds" := ⟨He.noat_ok (c.fact 15 rfl)⟩
    haveI : HasNo K "Foreteller" "books" := ⟨He.noat_ok (c.fact 16 rfl)⟩
    haveI : HasNo K "Foreteller" "mixer" := ⟨He.noat_ok (c.fact 17 rfl)⟩
    haveI : HasNo K "Foreteller" "ended" := ⟨He.noat_ok (c.fact 18 rfl)⟩
    haveI : HasNo K "Foreteller" "place" := ⟨He.noat_ok (c.fact 19 rfl)⟩
    haveI : HasNo K "Foreteller" "past" := ⟨He.noat_ok (c.fact 20 rfl)⟩
    haveI : HasCls K "Span" := ⟨He.cls_ok (c.fact 21 rfl)⟩
    haveI : HasNo K "Span" "low" := ⟨He.noat_ok (c.fact 22 rfl)⟩
    haveI : HasNo K "Span" "width" := ⟨He.noat_ok (c.fact 23 rfl)⟩
    haveI : HasNo K "Span" "size" := ⟨He.noat_ok (c.fact 24 rfl)⟩
    haveI : HasCls K "Seeker" := ⟨He.cls_ok (c.fact 25 rfl)⟩
    haveI : HasNo K "Seeker" "row" := ⟨He.noat_ok (c.fact 26 rfl)⟩
    haveI : HasNo K "Seeker" "span" := ⟨He.noat_ok (c.fact 27 rfl)⟩
    haveI : HasNo K "Seeker" "number" := ⟨He.noat_ok (c.fact 28 rfl)⟩
    haveI : HasNo K "Seeker" "taken" := ⟨He.noat_ok (c.fact 29 rfl)⟩
    haveI : HasCls K "Store" := ⟨He.cls_ok (c.fact 30 rfl)⟩
    haveI : HasNo K "Store" "kinds" := ⟨He.noat_ok (c.fact 31 rfl)⟩
    haveI : HasNo K "Store" "longest" := ⟨He.noat_ok (c.fact 32 rfl)⟩
    haveI : HasNo K "Store" "pieces" := ⟨He.noat_ok (c.fact 33 rfl)⟩
    haveI : HasTup K "KINDS" [.str "even", .str "quick", .str "run"] := tup_ok (c.ext 0 rfl)
    exact pure_Store_drop K h)
theorem cb_checked_text (KX : K.In h) (G : h.Ns mainGlobals mg) (c : SaysX fa fn xf K) : Cb P w K mg base 4 (He.fAd K ("checked_text", none)) ["thing"] [] (sp_checked_text K) :=
  cb_of (T := t_checked_text K) (c.def_ 5 rfl) sc_checked_text (fun vs H Q E h => by
    obtain ⟨_, rfl, _⟩ := h
    rfl) (fun _ _ _ _ _ _ us hl => match us, hl with | [_], _ => rfl)
   (fun cdv A outer s H E hr => by
    have nd := sc_checked_text.nd
    have ho := out_def (cxD_takes (P := P) (w := w) (K := K) (mg := mg) (base := base) (N := N_checked_text) (qual := "checked_text") (st := s_checked_text) (f := He.fAd K ("checked_text", none)) (cdv := cdv) (A := A) (outer := outer) (s := s) (H := H) (E := E))
    have tk := cxD_takes (P := P) (w := w) (K := K) (mg := mg) (base := base) (N := N_checked_text) (qual := "checked_text") (st := s_checked_text) (f := He.fAd K ("checked_text", none)) (cdv := cdv) (A := A) (outer := outer) (s := s) (H := H) (E := E)
    have pz := cxD_passes (P := P) (w := w) (K := K) (mg := mg) (base := base) (N := N_checked_text) (qual := "checked_text") (st := s_checked_text) (f := He.fAd K ("checked_text", none)) (cdv := cdv) (A := A) (outer := outer) (s := s) (H := H) (E := E)
    exact pss_cons (ps_if (pt_not (pt_tru (pe_fun (cb_are_signs KX G c) (hr.mono (by decide)) (He.glo_ok KX G (c.fact 83 rfl)) ho (pa_cons (pv 0) (pa_cons (pe_gint (He.int_ok KX G (c.fact 53 rfl))) (pa_nil)))))) (pss_one (ps_rz (exn_ok KX G (c.fact 84 rfl) (c.fact 85 rfl)) rfl tk)) (pss_nil))
       (pss_one (ps_ret (pe_callTy c_list (by rfl) (He.free_ok KX G (c.fact 44 rfl)) (by decide +kernel) (pa_cons (pv 0) (pa_nil))))))
   (fun vs H Q E h => by
    obtain ⟨_, rfl, h⟩ := h
    haveI : HasCls K "Slot" := ⟨He.cls_ok (c.fact 0 rfl)⟩
    haveI : HasCls K "Even" := ⟨He.cls_ok (c.fact 1 rfl)⟩
    haveI : HasNo K "Even" "noughts" := ⟨He.noat_ok (c.fact 2 rfl)⟩
    haveI : HasNo K "Even" "ones" := ⟨He.noat_ok (c.fact 3 rfl)⟩
    haveI : HasCls K "Quick" := ⟨He.cls_ok (c.fact 4 rfl)⟩
    haveI : HasNo K "Quick" "held" := ⟨He.noat_ok (c.fact 5 rfl)⟩
    haveI : HasCls K "Run" := ⟨He.cls_ok (c.fact 6 rfl)⟩
    haveI : HasNo K "Run" "last" := ⟨He.noat_ok (c.fact 7 rfl)⟩
    haveI : HasNo K "Run" "length" := ⟨He.noat_ok (c.fact 8 rfl)⟩
    haveI : HasCls K "Book" := ⟨He.cls_ok (c.fact 9 rfl)⟩
    haveI : HasNo K "Book" "look" := ⟨He.noat_ok (c.fact 10 rfl)⟩
    haveI : HasNo K "Book" "slots" := ⟨He.noat_ok (c.fact 11 rfl)⟩
    haveI : HasCls K "Mixer" := ⟨He.cls_ok (c.fact 12 rfl)⟩
    haveI : HasNo K "Mixer" "shares" := ⟨He.noat_ok (c.fact 13 rfl)⟩
    haveI : HasCls K "Foreteller" := ⟨He.cls_ok (c.fact 14 rfl)⟩
    haveI : HasNo K "Foreteller" "kinds" := ⟨He.noat_ok (c.fact 15 rfl)⟩
    haveI : HasNo K "Foreteller" "books" := ⟨He.noat_ok (c.fact 16 rfl)⟩
    haveI : HasNo K "Foreteller" "mixer" := ⟨He.noat_ok (c.fact 17 rfl)⟩
    haveI : HasNo K "Foreteller" "ended" := ⟨He.noat_ok (c.fact 18 rfl)⟩
    haveI : HasNo K "Foreteller" "place" := ⟨He.noat_ok (c.fact 19 rfl)⟩
    haveI : HasNo K "Foreteller" "past" := ⟨He.noat_ok (c.fact 20 rfl)⟩
    haveI : HasCls K "Span" := ⟨He.cls_ok (c.fact 21 rfl)⟩
    haveI : HasNo K "Span" "low" := ⟨He.noat_ok (c.fact 22 rfl)⟩
    haveI : HasNo K "Span" "width" := ⟨He.noat_ok (c.fact 23 rfl)⟩
    haveI : HasNo K "Span" "size" := ⟨He.noat_ok (c.fact 24 rfl)⟩
    haveI : HasCls K "Seeker" := ⟨He.cls_ok (c.fact 25 rfl)⟩
    haveI : HasNo K "Seeker" "row" := ⟨He.noat_ok (c.fact 26 rfl)⟩
    haveI : HasNo K "Seeker" "span" := ⟨He.noat_ok (c.fact 27 rfl)⟩
    haveI : HasNo K "Seeker" "number" := ⟨He.noat_ok (c.fact 28 rfl)⟩
    haveI : HasNo K "Seeker" "taken" := ⟨He.noat_ok (c.fact 29 rfl)⟩
    haveI : HasCls K "Store" := ⟨He.cls_ok (c.fact 30 rfl)⟩
    haveI : HasNo K "Store" "kinds" := ⟨He.noat_ok (c.fact 31 rfl)⟩
    haveI : HasNo K "Store" "longest" := ⟨He.noat_ok (c.fact 32 rfl)⟩
    haveI : HasNo K "Store" "pieces" := ⟨He.noat_ok (c.fact 33 rfl)⟩
    haveI : HasTup K "KINDS" [.str "even", .str "quick", .str "run"] := tup_ok (c.ext 0 rfl)
    exact pure_checked_text K h)
theorem cb_checked_bytes (KX : K.In h) (G : h.Ns mainGlobals mg) (c : SaysX fa fn xf K) : Cb P w K mg base 4 (He.fAd K ("checked_bytes", none)) ["thing"] [] (sp_checked_bytes K) :=
  cb_of (T := t_checked_bytes K) (c.def_ 6 rfl) sc_checked_bytes (fun vs H Q E h => by
    obtain ⟨_, rfl, _⟩ := h
    rfl) (fun _ _ _ _ _ _ us hl => match us, hl with | [_], _ => rfl)
   (fun cdv A outer s H E hr => by
    have nd := sc_checked_bytes.nd
    have ho := out_def (cxD_takes (P := P) (w := w) (K := K) (mg := mg) (base := base) (N := N_checked_bytes) (qual := "checked_bytes") (st := s_checked_bytes) (f := He.fAd K ("checked_bytes", none)) (cdv := cdv) (A := A) (outer := outer) (s := s) (H := H) (E := E))
    have tk := cxD_takes (P := P) (w := w) (K := K) (mg := mg) (base := base) (N := N_checked_bytes) (qual := "checked_bytes") (st := s_checked_bytes) (f := He.fAd K ("checked_bytes", none)) (cdv := cdv) (A := A) (outer := outer) (s := s) (H := H) (E := E)
    have pz := cxD_passes (P := P) (w := w) (K := K) (mg := mg) (base := base) (N := N_checked_bytes) (qual := "checked_bytes") (st := s_checked_bytes) (f := He.fAd K ("checked_bytes", none)) (cdv := cdv) (A := A) (outer := outer) (s := s) (H := H) (E := E)
    exact pss_cons (ps_if (pt_not (pt_tru (pe_fun (cb_are_signs KX G c) (hr.mono (by decide)) (He.glo_ok KX G (c.fact 83 rfl)) ho (pa_cons (pv 0) (pa_cons (pe_gint (He.int_ok KX G (c.fact 86 rfl))) (pa_nil)))))) (pss_one (ps_rz (exn_ok KX G (c.fact 87 rfl) (c.fact 88 rfl)) rfl tk)) (pss_nil))
       (pss_one (ps_ret (pe_callTy c_list (by rfl) (He.free_ok KX G (c.fact 44 rfl)) (by decide +kernel) (pa_cons (pv 0) (pa_nil))))))
   (fun vs H Q E h => by
    obtain ⟨_, rfl, h⟩ := h
    haveI : HasCls K "Slot" := ⟨He.cls_ok (c.fact 0 rfl)⟩
    haveI : HasCls K "Even" := ⟨He.cls_ok (c.fact 1 rfl)⟩
    haveI : HasNo K "Even" "noughts" := ⟨He.noat_ok (c.fact 2 rfl)⟩
    haveI : HasNo K "Even" "ones" := ⟨He.noat_ok (c.fact 3 rfl)⟩
    haveI : HasCls K "Quick" := ⟨He.cls_ok (c.fact 4 rfl)⟩
    haveI : HasNo K "Quick" "held" := ⟨He.noat_ok (c.fact 5 rfl)⟩
    haveI : HasCls K "Run" := ⟨He.cls_ok (c.fact 6 rfl)⟩
    haveI : HasNo K "Run" "last" := ⟨He.noat_ok (c.fact 7 rfl)⟩
    haveI : HasNo K "Run" "length" := ⟨He.noat_ok (c.fact 8 rfl)⟩
    haveI : HasCls K "Book" := ⟨He.cls_ok (c.fact 9 rfl)⟩
    haveI : HasNo K "Book" "look" := ⟨He.noat_ok (c.fact 10 rfl)⟩
    haveI : HasNo K "Book" "slots" := ⟨He.noat_ok (c.fact 11 rfl)⟩
    haveI : HasCls K "Mixer" := ⟨He.cls_ok (c.fact 12 rfl)⟩
    haveI : HasNo K "Mixer" "shares" := ⟨He.noat_ok (c.fact 13 rfl)⟩
    haveI : HasCls K "Foreteller" := ⟨He.cls_ok (c.fact 14 rfl)⟩
    haveI : HasNo K "Foreteller" "kinds" := ⟨He.noat_ok (c.fact 15 rfl)⟩
    haveI : HasNo K "Foreteller" "books" := ⟨He.noat_ok (c.fact 16 rfl)⟩
    haveI : HasNo K "Foreteller" "mixer" := ⟨He.noat_ok (c.fact 17 rfl)⟩
    haveI : HasNo K "Foreteller" "ended" := ⟨He.noat_ok (c.fact 18 rfl)⟩
    haveI : HasNo K "Foreteller" "place" := ⟨He.noat_ok (c.fact 19 rfl)⟩
    haveI : HasNo K "Foreteller" "past" := ⟨He.noat_ok (c.fact 20 rfl)⟩
    haveI : HasCls K "Span" := ⟨He.cls_ok (c.fact 21 rfl)⟩
    haveI : HasNo K "Span" "low" := ⟨He.noat_ok (c.fact 22 rfl)⟩
    haveI : HasNo K "Span" "width" := ⟨He.noat_ok (c.fact 23 rfl)⟩
    haveI : HasNo K "Span" "size" := ⟨He.noat_ok (c.fact 24 rfl)⟩
    haveI : HasCls K "Seeker" := ⟨He.cls_ok (c.fact 25 rfl)⟩
    haveI : HasNo K "Seeker" "row" := ⟨He.noat_ok (c.fact 26 rfl)⟩
    haveI : HasNo K "Seeker" "span" := ⟨He.noat_ok (c.fact 27 rfl)⟩
    haveI : HasNo K "Seeker" "number" := ⟨He.noat_ok (c.fact 28 rfl)⟩
    haveI : HasNo K "Seeker" "taken" := ⟨He.noat_ok (c.fact 29 rfl)⟩
    haveI : HasCls K "Store" := ⟨He.cls_ok (c.fact 30 rfl)⟩
    haveI : HasNo K "Store" "kinds" := ⟨He.noat_ok (c.fact 31 rfl)⟩
    haveI : HasNo K "Store" "longest" := ⟨He.noat_ok (c.fact 32 rfl)⟩
    haveI : HasNo K "Store" "pieces" := ⟨He.noat_ok (c.fact 33 rfl)⟩
    haveI : HasTup K "KINDS" [.str "even", .str "quick", .str "run"] := tup_ok (c.ext 0 rfl)
    exact pure_checked_bytes K h)
theorem cb_gives (KX : K.In h) (G : h.Ns mainGlobals mg) (c : SaysX fa fn xf K) : Cb P w K mg base 4 (He.fAd K ("gives", none)) ["chance", "bit"] [] (sp_gives K) :=
  cb_of (T := t_gives K) (c.def_ 10 rfl) sc_gives (fun vs H Q E h => by
    obtain ⟨_, _, rfl, _⟩ := h
    rfl) (fun _ _ _ _ _ _ us hl => match us, hl with | [_, _], _ => rfl)
   (fun cdv A outer s H E hr => by
    have nd := sc_gives.nd
    have ho := out_def (cxD_takes (P := P) (w := w) (K := K) (mg := mg) (base := base) (N := N_gives) (qual := "gives") (st := s_gives) (f := He.fAd K ("gives", none)) (cdv := cdv) (A := A) (outer := outer) (s := s) (H := H) (E := E))
    have tk := cxD_takes (P := P) (w := w) (K := K) (mg := mg) (base := base) (N := N_gives) (qual := "gives") (st := s_gives) (f := He.fAd K ("gives", none)) (cdv := cdv) (A := A) (outer := outer) (s := s) (H := H) (E := E)
    have pz := cxD_passes (P := P) (w := w) (K := K) (mg := mg) (base := base) (N := N_gives) (qual := "gives") (st := s_gives) (f := He.fAd K ("gives", none)) (cdv := cdv) (A := A) (outer := outer) (s := s) (H := H) (E := E)
    exact pss_cons (ps_set (i := 2) nd rfl (by first | exact Or.inl rfl | exact Or.inr rfl) (pe_fun (cb_checked_chance KX G c) (hr.mono (by decide)) (He.glo_ok KX G (c.fact 89 rfl)) ho (pa_cons (pv 0) (pa_nil))))
       (pss_cons (ps_if (pt_cmpR (o_same hr.units) (pe_fun (cb_checked_bit KX G c) (hr.mono (by decide)) (He.glo_ok KX G (c.fact 90 rfl)) ho (pa_cons (pv 1) (pa_nil))) (pe_int) (nomark _)) (pss_one (ps_ret (pv 2))) (pss_nil))
       (pss_one (ps_ret (pe_op o_minus (pe_gint (He.int_ok KX G (c.fact 37 rfl))) (pv 2))))))
   (fun vs H Q E h => by
    obtain ⟨_, _, rfl, h⟩ := h
    haveI : HasCls K "Slot" := ⟨He.cls_ok (c.fact 0 rfl)⟩
    haveI : HasCls K "Even" := ⟨He.cls_ok (c.fact 1 rfl)⟩
    haveI : HasNo K "Even" "noughts" := ⟨He.noat_ok (c.fact 2 rfl)⟩
    haveI : HasNo K "Even" "ones" := ⟨He.noat_ok (c.fact 3 rfl)⟩
    haveI : HasCls K "Quick" := ⟨He.cls_ok (c.fact 4 rfl)⟩
    haveI : HasNo K "Quick" "held" := ⟨He.noat_ok (c.fact 5 rfl)⟩
    haveI : HasCls K "Run" := ⟨He.cls_ok (c.fact 6 rfl)⟩
    haveI : HasNo K "Run" "last" := ⟨He.noat_ok (c.fact 7 rfl)⟩
    haveI : HasNo K "Run" "length" := ⟨He.noat_ok (c.fact 8 rfl)⟩
    haveI : HasCls K "Book" := ⟨He.cls_ok (c.fact 9 rfl)⟩
    haveI : HasNo K "Book" "look" := ⟨He.noat_ok (c.fact 10 rfl)⟩
    haveI : HasNo K "Book" "slots" := ⟨He.noat_ok (c.fact 11 rfl)⟩
    haveI : HasCls K "Mixer" := ⟨He.cls_ok (c.fact 12 rfl)⟩
    haveI : HasNo K "Mixer" "shares" := ⟨He.noat_ok (c.fact 13 rfl)⟩
    haveI : HasCls K "Foreteller" := ⟨He.cls_ok (c.fact 14 rfl)⟩
    haveI : HasNo K "Foreteller" "kinds" := ⟨He.noat_ok (c.fact 15 rfl)⟩
    haveI : HasNo K "Foreteller" "books" := ⟨He.noat_ok (c.fact 16 rfl)⟩
    haveI : HasNo K "Foreteller" "mixer" := ⟨He.noat_ok (c.fact 17 rfl)⟩
    haveI : HasNo K "Foreteller" "ended" := ⟨He.noat_ok (c.fact 18 rfl)⟩
    haveI : HasNo K "Foreteller" "place" := ⟨He.noat_ok (c.fact 19 rfl)⟩
    haveI : HasNo K "Foreteller" "past" := ⟨He.noat_ok (c.fact 20 rfl)⟩
    haveI : HasCls K "Span" := ⟨He.cls_ok (c.fact 21 rfl)⟩
    haveI : HasNo K "Span" "low" := ⟨He.noat_ok (c.fact 22 rfl)⟩
    haveI : HasNo K "Span" "width" := ⟨He.noat_ok (c.fact 23 rfl)⟩
    haveI : HasNo K "Span" "size" := ⟨He.noat_ok (c.fact 24 rfl)⟩
    haveI : HasCls K "Seeker" := ⟨He.cls_ok (c.fact 25 rfl)⟩
    haveI : HasNo K "Seeker" "row" := ⟨He.noat_ok (c.fact 26 rfl)⟩
    haveI : HasNo K "Seeker" "span" := ⟨He.noat_ok (c.fact 27 rfl)⟩
    haveI : HasNo K "Seeker" "number" := ⟨He.noat_ok (c.fact 28 rfl)⟩
    haveI : HasNo K "Seeker" "taken" := ⟨He.noat_ok (c.fact 29 rfl)⟩
    haveI : HasCls K "Store" := ⟨He.cls_ok (c.fact 30 rfl)⟩
    haveI : HasNo K "Store" "kinds" := ⟨He.noat_ok (c.fact 31 rfl)⟩
    haveI : HasNo K "Store" "longest" := ⟨He.noat_ok (c.fact 32 rfl)⟩
    haveI : HasNo K "Store" "pieces" := ⟨He.noat_ok (c.fact 33 rfl)⟩
    haveI : HasTup K "KINDS" [.str "even", .str "quick", .str "run"] := tup_ok (c.ext 0 rfl)
    exact pure_gives K h)
theorem cb_Even_seen (KX : K.In h) (G : h.Ns mainGlobals mg) (c : SaysX fa fn xf K) : Cb P w K mg base 4 (He.fAd K ("Even", some "seen")) ["self", "bit"] [] (sp_Even_seen K) :=
  cb_of (T := t_Even_seen K) (c.def_ 13 rfl) sc_Even_seen (fun vs H Q E h => by
    obtain ⟨_, _, rfl, _⟩ := h
    rfl) (fun _ _ _ _ _ _ us hl => match us, hl with | [_, _], _ => rfl)
   (fun cdv A outer s H E hr => by
    have nd := sc_Even_seen.nd
    have ho := out_def (cxD_takes (P := P) (w := w) (K := K) (mg := mg) (base := base) (N := N_Even_seen) (qual := "Even.seen") (st := s_Even_seen) (f := He.fAd K ("Even", some "seen")) (cdv := cdv) (A := A) (outer := outer) (s := s) (H := H) (E := E))
    have tk := cxD_takes (P := P) (w := w) (K := K) (mg := mg) (base := base) (N := N_Even_seen) (qual := "Even.seen") (st := s_Even_seen) (f := He.fAd K ("Even", some "seen")) (cdv := cdv) (A := A) (outer := outer) (s := s) (H := H) (E := E)
    have pz := cxD_passes (P := P) (w := w) (K := K) (mg := mg) (base := base) (N := N_Even_seen) (qual := "Even.seen") (st := s_Even_seen) (f := He.fAd K ("Even", some "seen")) (cdv := cdv) (A := A) (outer := outer) (s := s) (H := H) (E := E)
    exact pss_cons (ps_if (pt_cmpR (o_same hr.units) (pe_fun (cb_checked_bit KX G c) (hr.mono (by decide)) (He.glo_ok KX G (c.fact 90 rfl)) ho (pa_cons (pv 1) (pa_nil))) (pe_int) (nomark _)) (pss_one (ps_fldaug (pv 0) (pe_int) in_add)) (pss_one (ps_fldaug (pv 0) (pe_int) in_add)))
       (pss_one (ps_if (pt_cmpR o_gt (pe_op o_plus (pe_fld (pv 0) rfl) (pe_fld (pv 0) rfl)) (pe_gint (He.int_ok KX G (c.fact 91 rfl))) (nomark _)) (pss_cons (ps_fld (pv 0) (pe_op o_floor (pe_op o_plus (pe_fld (pv 0) rfl) (pe_int)) (pe_int)) rfl)
       (pss_one (ps_fld (pv 0) (pe_op o_floor (pe_op o_plus (pe_fld (pv 0) rfl) (pe_int)) (pe_int)) rfl))) (pss_nil))))
   (fun vs H Q E h => by
    obtain ⟨_, _, rfl, h⟩ := h
    haveI : HasCls K "Slot" := ⟨He.cls_ok (c.fact 0 rfl)⟩
    haveI : HasCls K "Even" := ⟨He.cls_ok (c.fact 1 rfl)⟩
    haveI : HasNo K "Even" "noughts" := ⟨He.noat_ok (c.fact 2 rfl)⟩
    haveI : HasNo K "Even" "ones" := ⟨He.noat_ok (c.fact 3 rfl)⟩
    haveI : HasCls K "Quick" := ⟨He.cls_ok (c.fact 4 rfl)⟩
    haveI : HasNo K "Quick" "held" := ⟨He.noat_ok (c.fact 5 rfl)⟩
    haveI : HasCls K "Run" := ⟨He.cls_ok (c.fact 6 rfl)⟩
    haveI : HasNo K "Run" "last" := ⟨He.noat_ok (c.fact 7 rfl)⟩
    haveI : HasNo K "Run" "length" := ⟨He.noat_ok (c.fact 8 rfl)⟩
    haveI : HasCls K "Book" := ⟨He.cls_ok (c.fact 9 rfl)⟩
    haveI : HasNo K "Book" "look" := ⟨He.noat_ok (c.fact 10 rfl)⟩
    haveI : HasNo K "Book" "slots" := ⟨He.noat_ok (c.fact 11 rfl)⟩
    haveI : HasCls K "Mixer" := ⟨He.cls_ok (c.fact 12 rfl)⟩
    haveI : HasNo K "Mixer" "shares" := ⟨He.noat_ok (c.fact 13 rfl)⟩
    haveI : HasCls K "Foreteller" := ⟨He.cls_ok (c.fact 14 rfl)⟩
    haveI : HasNo K "Foreteller" "kinds" := ⟨He.noat_ok (c.fact 15 rfl)⟩
    haveI : HasNo K "Foreteller" "books" := ⟨He.noat_ok (c.fact 16 rfl)⟩
    haveI : HasNo K "Foreteller" "mixer" := ⟨He.noat_ok (c.fact 17 rfl)⟩
    haveI : HasNo K "Foreteller" "ended" := ⟨He.noat_ok (c.fact 18 rfl)⟩
    haveI : HasNo K "Foreteller" "place" := ⟨He.noat_ok (c.fact 19 rfl)⟩
    haveI : HasNo K "Foreteller" "past" := ⟨He.noat_ok (c.fact 20 rfl)⟩
    haveI : HasCls K "Span" := ⟨He.cls_ok (c.fact 21 rfl)⟩
    haveI : HasNo K "Span" "low" := ⟨He.noat_ok (c.fact 22 rfl)⟩
    haveI : HasNo K "Span" "width" := ⟨He.noat_ok (c.fact 23 rfl)⟩
    haveI : HasNo K "Span" "size" := ⟨He.noat_ok (c.fact 24 rfl)⟩
    haveI : HasCls K "Seeker" := ⟨He.cls_ok (c.fact 25 rfl)⟩
    haveI : HasNo K "Seeker" "row" := ⟨He.noat_ok (c.fact 26 rfl)⟩
    haveI : HasNo K "Seeker" "span" := ⟨He.noat_ok (c.fact 27 rfl)⟩
    haveI : HasNo K "Seeker" "number" := ⟨He.noat_ok (c.fact 28 rfl)⟩
    haveI : HasNo K "Seeker" "taken" := ⟨He.noat_ok (c.fact 29 rfl)⟩
    haveI : HasCls K "Store" := ⟨He.cls_ok (c.fact 30 rfl)⟩
    haveI : HasNo K "Store" "kinds" := ⟨He.noat_ok (c.fact 31 rfl)⟩
    haveI : HasNo K "Store" "longest" := ⟨He.noat_ok (c.fact 32 rfl)⟩
    haveI : HasNo K "Store" "pieces" := ⟨He.noat_ok (c.fact 33 rfl)⟩
    haveI : HasTup K "KINDS" [.str "even", .str "quick", .str "run"] := tup_ok (c.ext 0 rfl)
    exact pure_Even_seen K h)
theorem cb_Quick_seen (KX : K.In h) (G : h.Ns mainGlobals mg) (c : SaysX fa fn xf K) : Cb P w K mg base 4 (He.fAd K ("Quick", some "seen")) ["self", "bit"] [] (sp_Quick_seen K) :=
  cb_of (T := t_Quick_seen K) (c.def_ 16 rfl) sc_Quick_seen (fun vs H Q E h => by
    obtain ⟨_, _, rfl, _⟩ := h
    rfl) (fun _ _ _ _ _ _ us hl => match us, hl with | [_, _], _ => rfl)
   (fun cdv A outer s H E hr => by
    have nd := sc_Quick_seen.nd
    have ho := out_def (cxD_takes (P := P) (w := w) (K := K) (mg := mg) (base := base) (N := N_Quick_seen) (qual := "Quick.seen") (st := s_Quick_seen) (f := He.fAd K ("Quick", some "seen")) (cdv := cdv) (A := A) (outer := outer) (s := s) (H := H) (E := E))
    have tk := cxD_takes (P := P) (w := w) (K := K) (mg := mg) (base := base) (N := N_Quick_seen) (qual := "Quick.seen") (st := s_Quick_seen) (f := He.fAd K ("Quick", some "seen")) (cdv := cdv) (A := A) (outer := outer) (s := s) (H := H) (E := E)
    have pz := cxD_passes (P := P) (w := w) (K := K) (mg := mg) (base := base) (N := N_Quick_seen) (qual := "Quick.seen") (st := s_Quick_seen) (f := He.fAd K ("Quick", some "seen")) (cdv := cdv) (A := A) (outer := outer) (s := s) (H := H) (E := E)
    exact pss_cons (ps_if (pt_cmpR (o_same hr.units) (pe_fun (cb_checked_bit KX G c) (hr.mono (by decide)) (He.glo_ok KX G (c.fact 90 rfl)) ho (pa_cons (pv 1) (pa_nil))) (pe_int) (nomark _)) (pss_one (ps_fldaug (pv 0) (pe_op o_floor (pe_op o_minus (pe_gint (He.int_ok KX G (c.fact 37 rfl))) (pe_fld (pv 0) rfl)) (pe_int)) in_add)) (pss_one (ps_fldaug (pv 0) (pe_op o_floor (pe_fld (pv 0) rfl) (pe_int)) in_sub)))
       (pss_one (ps_fld (pv 0) (pe_callB (c_max rfl) (by rfl) (He.free_ok KX G (c.fact 92 rfl)) (by decide +kernel) (pa_cons (pe_gint (He.int_ok KX G (c.fact 52 rfl))) (pa_cons (pe_callB (c_min rfl) (by rfl) (He.free_ok KX G (c.fact 93 rfl)) (by decide +kernel) (pa_cons (pe_op o_minus (pe_gint (He.int_ok KX G (c.fact 37 rfl))) (pe_gint (He.int_ok KX G (c.fact 52 rfl)))) (pa_cons (pe_fld (pv 0) rfl) (pa_nil)))) (pa_nil)))) rfl)))
   (fun vs H Q E h => by
    obtain ⟨_, _, rfl, h⟩ := h
    haveI : HasCls K "Slot" := ⟨He.cls_ok (c.fact 0 rfl)⟩
    haveI : HasCls K "Even" := ⟨He.cls_ok (c.fact 1 rfl)⟩
    haveI : HasNo K "Even" "noughts" := ⟨He.noat_ok (c.fact 2 rfl)⟩
    haveI : HasNo K "Even" "ones" := ⟨He.noat_ok (c.fact 3 rfl)⟩
    haveI : HasCls K "Quick" := ⟨He.cls_ok (c.fact 4 rfl)⟩
    haveI : HasNo K "Quick" "held" := ⟨He.noat_ok (c.fact 5 rfl)⟩
    haveI : HasCls K "Run" := ⟨He.cls_ok (c.fact 6 rfl)⟩
    haveI : HasNo K "Run" "last" := ⟨He.noat_ok (c.fact 7 rfl)⟩
    haveI : HasNo K "Run" "length" := ⟨He.noat_ok (c.fact 8 rfl)⟩
    haveI : HasCls K "Book" := ⟨He.cls_ok (c.fact 9 rfl)⟩
    haveI : HasNo K "Book" "look" := ⟨He.noat_ok (c.fact 10 rfl)⟩
    haveI : HasNo K "Book" "slots" := ⟨He.noat_ok (c.fact 11 rfl)⟩
    haveI : HasCls K "Mixer" := ⟨He.cls_ok (c.fact 12 rfl)⟩
    haveI : HasNo K "Mixer" "shares" := ⟨He.noat_ok (c.fact 13 rfl)⟩
    haveI : HasCls K "Foreteller" := ⟨He.cls_ok (c.fact 14 rfl)⟩
    haveI : HasNo K "Foreteller" "kinds" := ⟨He.noat_ok (c.fact 15 rfl)⟩
    haveI : HasNo K "Foreteller" "books" := ⟨He.noat_ok (c.fact 16 rfl)⟩
    haveI : HasNo K "Foreteller" "mixer" := ⟨He.noat_ok (c.fact 17 rfl)⟩
    haveI : HasNo K "Foreteller" "ended" := ⟨He.noat_ok (c.fact 18 rfl)⟩
    haveI : HasNo K "Foreteller" "place" := ⟨He.noat_ok (c.fact 19 rfl)⟩
    haveI : HasNo K "Foreteller" "past" := ⟨He.noat_ok (c.fact 20 rfl)⟩
    haveI : HasCls K "Span" := ⟨He.cls_ok (c.fact 21 rfl)⟩
    haveI : HasNo K "Span" "low" := ⟨He.noat_ok (c.fact 22 rfl)⟩
    haveI : HasNo K "Span" "width" := ⟨He.noat_ok (c.fact 23 rfl)⟩
    haveI : HasNo K "Span" "size" := ⟨He.noat_ok (c.fact 24 rfl)⟩
    haveI : HasCls K "Seeker" := ⟨He.cls_ok (c.fact 25 rfl)⟩
    haveI : HasNo K "Seeker" "row" := ⟨He.noat_ok (c.fact 26 rfl)⟩
    haveI : HasNo K "Seeker" "span" := ⟨He.noat_ok (c.fact 27 rfl)⟩
    haveI : HasNo K "Seeker" "number" := ⟨He.noat_ok (c.fact 28 rfl)⟩
    haveI : HasNo K "Seeker" "taken" := ⟨He.noat_ok (c.fact 29 rfl)⟩
    haveI : HasCls K "Store" := ⟨He.cls_ok (c.fact 30 rfl)⟩
    haveI : HasNo K "Store" "kinds" := ⟨He.noat_ok (c.fact 31 rfl)⟩
    haveI : HasNo K "Store" "longest" := ⟨He.noat_ok (c.fact 32 rfl)⟩
    haveI : HasNo K "Store" "pieces" := ⟨He.noat_ok (c.fact 33 rfl)⟩
    haveI : HasTup K "KINDS" [.str "even", .str "quick", .str "run"] := tup_ok (c.ext 0 rfl)
    exact pure_Quick_seen K h)
theorem cb_Run_seen (KX : K.In h) (G : h.Ns mainGlobals mg) (c : SaysX fa fn xf K) : Cb P w K mg base 4 (He.fAd K ("Run", some "seen")) ["self", "bit"] [] (sp_Run_seen K) :=
  cb_of (T := t_Run_seen K) (c.def_ 19 rfl) sc_Run_seen (fun vs H Q E h => by
    obtain ⟨_, _, rfl, _⟩ := h
    rfl) (fun _ _ _ _ _ _ us hl => match us, hl with | [_, _], _ => rfl)
   (fun cdv A outer s H E hr => by
    have nd := sc_Run_seen.nd
    have ho := out_def (cxD_takes (P := P) (w := w) (K := K) (mg := mg) (base := base) (N := N_Run_seen) (qual := "Run.seen") (st := s_Run_seen) (f := He.fAd K ("Run", some "seen")) (cdv := cdv) (A := A) (outer := outer) (s := s) (H := H) (E := E))
    have tk := cxD_takes (P := P) (w := w) (K := K) (mg := mg) (base := base) (N := N_Run_seen) (qual := "Run.seen") (st := s_Run_seen) (f := He.fAd K ("Run", some "seen")) (cdv := cdv) (A := A) (outer := outer) (s := s) (H := H) (E := E)
    have pz := cxD_passes (P := P) (w := w) (K := K) (mg := mg) (base := base) (N := N_Run_seen) (qual := "Run.seen") (st := s_Run_seen) (f := He.fAd K ("Run", some "seen")) (cdv := cdv) (A := A) (outer := outer) (s := s) (H := H) (E := E)
    exact pss_one (ps_if (pt_cmpR (o_same hr.units) (pe_fun (cb_checked_bit KX G c) (hr.mono (by decide)) (He.glo_ok KX G (c.fact 90 rfl)) ho (pa_cons (pv 1) (pa_nil))) (pe_fld (pv 0) rfl) (nomark _)) (pss_one (ps_fld (pv 0) (pe_callB (c_min rfl) (by rfl) (He.free_ok KX G (c.fact 93 rfl)) (by decide +kernel) (pa_cons (pe_op o_plus (pe_fld (pv 0) rfl) (pe_int)) (pa_cons (pe_gint (He.int_ok KX G (c.fact 91 rfl))) (pa_nil)))) rfl)) (pss_cons (ps_fld (pv 0) (pv 1) rfl)
       (pss_one (ps_fld (pv 0) (pe_int) rfl)))))
   (fun vs H Q E h => by
    obtain ⟨_, _, rfl, h⟩ := h
    haveI : HasCls K "Slot" := ⟨He.cls_ok (c.fact 0 rfl)⟩
    haveI : HasCls K "Even" := ⟨He.cls_ok (c.fact 1 rfl)⟩
    haveI : HasNo K "Even" "noughts" := ⟨He.noat_ok (c.fact 2 rfl)⟩
    haveI : HasNo K "Even" "ones" := ⟨He.noat_ok (c.fact 3 rfl)⟩
    haveI : HasCls K "Quick" := ⟨He.cls_ok (c.fact 4 rfl)⟩
    haveI : HasNo K "Quick" "held" := ⟨He.noat_ok (c.fact 5 rfl)⟩
    haveI : HasCls K "Run" := ⟨He.cls_ok (c.fact 6 rfl)⟩
    haveI : HasNo K "Run" "last" := ⟨He.noat_ok (c.fact 7 rfl)⟩
    haveI : HasNo K "Run" "length" := ⟨He.noat_ok (c.fact 8 rfl)⟩
    haveI : HasCls K "Book" := ⟨He.cls_ok (c.fact 9 rfl)⟩
    haveI : HasNo K "Book" "look" := ⟨He.noat_ok (c.fact 10 rfl)⟩
    haveI : HasNo K "Book" "slots" := ⟨He.noat_ok (c.fact 11 rfl)⟩
    haveI : HasCls K "Mixer" := ⟨He.cls_ok (c.fact 12 rfl)⟩
    haveI : HasNo K "Mixer" "shares" := ⟨He.noat_ok (c.fact 13 rfl)⟩
    haveI : HasCls K "Foreteller" := ⟨He.cls_ok (c.fact 14 rfl)⟩
    haveI : HasNo K "Foreteller" "kinds" := ⟨He.noat_ok (c.fact 15 rfl)⟩
    haveI : HasNo K "Foreteller" "books" := ⟨He.noat_ok (c.fact 16 rfl)⟩
    haveI : HasNo K "Foreteller" "mixer" := ⟨He.noat_ok (c.fact 17 rfl)⟩
    haveI : HasNo K "Foreteller" "ended" := ⟨He.noat_ok (c.fact 18 rfl)⟩
    haveI : HasNo K "Foreteller" "place" := ⟨He.noat_ok (c.fact 19 rfl)⟩
    haveI : HasNo K "Foreteller" "past" := ⟨He.noat_ok (c.fact 20 rfl)⟩
    haveI : HasCls K "Span" := ⟨He.cls_ok (c.fact 21 rfl)⟩
    haveI : HasNo K "Span" "low" := ⟨He.noat_ok (c.fact 22 rfl)⟩
    haveI : HasNo K "Span" "width" := ⟨He.noat_ok (c.fact 23 rfl)⟩
    haveI : HasNo K "Span" "size" := ⟨He.noat_ok (c.fact 24 rfl)⟩
    haveI : HasCls K "Seeker" := ⟨He.cls_ok (c.fact 25 rfl)⟩
    haveI : HasNo K "Seeker" "row" := ⟨He.noat_ok (c.fact 26 rfl)⟩
    haveI : HasNo K "Seeker" "span" := ⟨He.noat_ok (c.fact 27 rfl)⟩
    haveI : HasNo K "Seeker" "number" := ⟨He.noat_ok (c.fact 28 rfl)⟩
    haveI : HasNo K "Seeker" "taken" := ⟨He.noat_ok (c.fact 29 rfl)⟩
    haveI : HasCls K "Store" := ⟨He.cls_ok (c.fact 30 rfl)⟩
    haveI : HasNo K "Store" "kinds" := ⟨He.noat_ok (c.fact 31 rfl)⟩
    haveI : HasNo K "Store" "longest" := ⟨He.noat_ok (c.fact 32 rfl)⟩
    haveI : HasNo K "Store" "pieces" := ⟨He.noat_ok (c.fact 33 rfl)⟩
    haveI : HasTup K "KINDS" [.str "even", .str "quick", .str "run"] := tup_ok (c.ext 0 rfl)
    exact pure_Run_seen K h)
theorem cb_checked_looks (KX : K.In h) (G : h.Ns mainGlobals mg) (c : SaysX fa fn xf K) : Cb P w K mg base 4 (He.fAd K ("checked_looks", none)) ["thing"] [] (sp_checked_looks K) :=
  cb_of (T := t_checked_looks K) (c.def_ 23 rfl) sc_checked_looks (fun vs H Q E h => by
    obtain ⟨_, rfl, _⟩ := h
    rfl) (fun _ _ _ _ _ _ us hl => match us, hl with | [_], _ => rfl)
   (fun cdv A outer s H E hr => by
    have nd := sc_checked_looks.nd
    have ho := out_def (cxD_takes (P := P) (w := w) (K := K) (mg := mg) (base := base) (N := N_checked_looks) (qual := "checked_looks") (st := s_checked_looks) (f := He.fAd K ("checked_looks", none)) (cdv := cdv) (A := A) (outer := outer) (s := s) (H := H) (E := E))
    have tk := cxD_takes (P := P) (w := w) (K := K) (mg := mg) (base := base) (N := N_checked_looks) (qual := "checked_looks") (st := s_checked_looks) (f := He.fAd K ("checked_looks", none)) (cdv := cdv) (A := A) (outer := outer) (s := s) (H := H) (E := E)
    have pz := cxD_passes (P := P) (w := w) (K := K) (mg := mg) (base := base) (N := N_checked_looks) (qual := "checked_looks") (st := s_checked_looks) (f := He.fAd K ("checked_looks", none)) (cdv := cdv) (A := A) (outer := outer) (s := s) (H := H) (E := E)
    exact pss_cons (ps_if (PW.pt (pw_or (pt_not (pt_tru (pe_callB c_isi (by rfl) (He.free_ok KX G (c.fact 34 rfl)) (by decide +kernel) (pa_cons (pv 0) (pa_cons (pe_gty (He.free_ok KX G (c.fact 44 rfl)) (by decide +kernel)) (pa_nil)))))) (pw_or1 (pt_not (pt_chain o_le o_le (pe_int) (pe_callB c_len (by rfl) (He.free_ok KX G (c.fact 38 rfl)) (by decide +kernel) (pa_cons (pv 0) (pa_nil))) (pe_gint (He.int_ok KX G (c.fact 95 rfl)))))))) (pss_one (ps_rz (exn_ok KX G (c.fact 96 rfl) (c.fact 97 rfl)) rfl tk)) (pss_nil))
       (pss_cons (ps_if (pt_not (pt_tru (pe_callB (c_all rfl) (by rfl) (He.free_ok KX G (c.fact 63 rfl)) (by decide +kernel) (pa_cons (pe_lc (own := [("look", 1)]) (g := gName 1) (tt := tYes) rfl nd (pi_list (pv 0)) (blkOk_by (N := N_checked_looks) (sc := defScope s_checked_looks) (by decide +kernel)) (fun _ _ _ _ _ => pg_name (i := 1) nd rfl (by first | exact Or.inl rfl | exact Or.inr rfl)) (fun _ _ _ _ _ => pts_nil) (fun _ _ _ _ _ => pe_fun (cb_is_look KX G c) (hr.mono (by decide)) (He.glo_ok KX G (c.fact 94 rfl)) out_none (pa_cons (pv 1) (pa_nil)))) (pa_nil))))) (pss_one (ps_rz (exn_ok KX G (c.fact 96 rfl) (c.fact 97 rfl)) rfl tk)) (pss_nil))
       (pss_one (ps_ret (pe_callTy c_list (by rfl) (He.free_ok KX G (c.fact 44 rfl)) (by decide +kernel) (pa_cons (pv 0) (pa_nil)))))))
   (fun vs H Q E h => by
    obtain ⟨_, rfl, h⟩ := h
    haveI : HasCls K "Slot" := ⟨He.cls_ok (c.fact 0 rfl)⟩
    haveI : HasCls K "Even" := ⟨He.cls_ok (c.fact 1 rfl)⟩
    haveI : HasNo K "Even" "noughts" := ⟨He.noat_ok (c.fact 2 rfl)⟩
    haveI : HasNo K "Even" "ones" := ⟨He.noat_ok (c.fact 3 rfl)⟩
    haveI : HasCls K "Quick" := ⟨He.cls_ok (c.fact 4 rfl)⟩
    haveI : HasNo K "Quick" "held" := ⟨He.noat_ok (c.fact 5 rfl)⟩
    haveI : HasCls K "Run" := ⟨He.cls_ok (c.fact 6 rfl)⟩
    haveI : HasNo K "Run" "last" := ⟨He.noat_ok (c.fact 7 rfl)⟩
    haveI : HasNo K "Run" "length" := ⟨He.noat_ok (c.fact 8 rfl)⟩
    haveI : HasCls K "Book" := ⟨He.cls_ok (c.fact 9 rfl)⟩
    haveI : HasNo K "Book" "look" := ⟨He.noat_ok (c.fact 10 rfl)⟩
    haveI : HasNo K "Book" "slots" := ⟨He.noat_ok (c.fact 11 rfl)⟩
    haveI : HasCls K "Mixer" := ⟨He.cls_ok (c.fact 12 rfl)⟩
    haveI : HasNo K "Mixer" "shares" := ⟨He.noat_ok (c.fact 13 rfl)⟩
    haveI : HasCls K "Foreteller" := ⟨He.cls_ok (c.fact 14 rfl)⟩
    haveI : HasNo K "Foreteller" "kinds" := ⟨He.noat_ok (c.fact 15 rfl)⟩
    haveI : HasNo K "Foreteller" "books" := ⟨He.noat_ok (c.fact 16 rfl)⟩
    haveI : HasNo K "Foreteller" "mixer" := ⟨He.noat_ok (c.fact 17 rfl)⟩
    haveI : HasNo K "Foreteller" "ended" := ⟨He.noat_ok (c.fact 18 rfl)⟩
    haveI : HasNo K "Foreteller" "place" := ⟨He.noat_ok (c.fact 19 rfl)⟩
    haveI : HasNo K "Foreteller" "past" := ⟨He.noat_ok (c.fact 20 rfl)⟩
    haveI : HasCls K "Span" := ⟨He.cls_ok (c.fact 21 rfl)⟩
    haveI : HasNo K "Span" "low" := ⟨He.noat_ok (c.fact 22 rfl)⟩
    haveI : HasNo K "Span" "width" := ⟨He.noat_ok (c.fact 23 rfl)⟩
    haveI : HasNo K "Span" "size" := ⟨He.noat_ok (c.fact 24 rfl)⟩
    haveI : HasCls K "Seeker" := ⟨He.cls_ok (c.fact 25 rfl)⟩
    haveI : HasNo K "Seeker" "row" := ⟨He.noat_ok (c.fact 26 rfl)⟩
    haveI : HasNo K "Seeker" "span" := ⟨He.noat_ok (c.fact 27 rfl)⟩
    haveI : HasNo K "Seeker" "number" := ⟨He.noat_ok (c.fact 28 rfl)⟩
    haveI : HasNo K "Seeker" "taken" := ⟨He.noat_ok (c.fact 29 rfl)⟩
    haveI : HasCls K "Store" := ⟨He.cls_ok (c.fact 30 rfl)⟩
    haveI : HasNo K "Store" "kinds" := ⟨He.noat_ok (c.fact 31 rfl)⟩
    haveI : HasNo K "Store" "longest" := ⟨He.noat_ok (c.fact 32 rfl)⟩
    haveI : HasNo K "Store" "pieces" := ⟨He.noat_ok (c.fact 33 rfl)⟩
    haveI : HasTup K "KINDS" [.str "even", .str "quick", .str "run"] := tup_ok (c.ext 0 rfl)
    exact pure_checked_looks K h)
theorem cb_Book_chance (KX : K.In h) (G : h.Ns mainGlobals mg) (c : SaysX fa fn xf K) : Cb P w K mg base 4 (He.fAd K ("Book", some "chance")) ["self", "signs", "node"] [] (sp_Book_chance K) :=
  cb_of (T := t_Book_chance K) (c.def_ 26 rfl) sc_Book_chance (fun vs H Q E h => by
    obtain ⟨_, _, _, rfl, _⟩ := h
    rfl) (fun _ _ _ _ _ _ us hl => match us, hl with | [_, _, _], _ => rfl)
   (fun cdv A outer s H E hr => by
    have nd := sc_Book_chance.nd
    have ho := out_def (cxD_takes (P := P) (w := w) (K := K) (mg := mg) (base := base) (N := N_Book_chance) (qual := "Book.chance") (st := s_Book_chance) (f := He.fAd K ("Book", some "chance")) (cdv := cdv) (A := A) (outer := outer) (s := s) (H := H) (E := E))
    have tk := cxD_takes (P := P) (w := w) (K := K) (mg := mg) (base := base) (N := N_Book_chance) (qual := "Book.chance") (st := s_Book_chance) (f := He.fAd K ("Book", some "chance")) (cdv := cdv) (A := A) (outer := outer) (s := s) (H := H) (E := E)
    have pz := cxD_passes (P := P) (w := w) (K := K) (mg := mg) (base := base) (N := N_Book_chance) (qual := "Book.chance") (st := s_Book_chance) (f := He.fAd K ("Book", some "chance")) (cdv := cdv) (A := A) (outer := outer) (s := s) (H := H) (E := E)
    exact pss_cons (ps_set (i := 3) nd rfl (by first | exact Or.inl rfl | exact Or.inr rfl) (pe_fun (cb_context_of KX G c) (hr.mono (by decide)) (He.glo_ok KX G (c.fact 98 rfl)) ho (pa_cons (pe_fld (pv 0) rfl) (pa_cons (pv 1) (pa_cons (pv 2) (pa_nil))))))
       (pss_cons (ps_if (pt_cmp (pc_din (hu_of hr) (pv 3) (pe_fld (pv 0) rfl))) (pss_one (ps_ret (pe_mth0 (k := 3) (pe_dget (hu_of hr) (pe_fld (pv 0) rfl) (pv 3) (fun _ _ => rfl)) (mo_or (mo_one (He.cls_ok (c.fact 1 rfl)) (He.meth_ok (c.fact 100 rfl)) (cb_Even_chance KX G c) (by decide)) (mo_or (mo_one (He.cls_ok (c.fact 4 rfl)) (He.meth_ok (c.fact 101 rfl)) (cb_Quick_chance KX G c) (by decide)) (mo_one (He.cls_ok (c.fact 6 rfl)) (He.meth_ok (c.fact 102 rfl)) (cb_Run_chance KX G c) (by decide)))) hr ho))) (pss_nil))
       (pss_one (ps_ret (pe_mth0 (k := 3) (pe_fun (cb_slot_of KX G c) (hr.mono (by decide)) (He.glo_ok KX G (c.fact 99 rfl)) ho (pa_cons (pe_ix ix_seq (pe_fld (pv 0) rfl) (pe_int) (fun _ _ => rfl)) (pa_nil))) (mo_or (mo_one (He.cls_ok (c.fact 1 rfl)) (He.meth_ok (c.fact 100 rfl)) (cb_Even_chance KX G c) (by decide)) (mo_or (mo_one (He.cls_ok (c.fact 4 rfl)) (He.meth_ok (c.fact 101 rfl)) (cb_Quick_chance KX G c) (by decide)) (mo_one (He.cls_ok (c.fact 6 rfl)) (He.meth_ok (c.fact 102 rfl)) (cb_Run_chance KX G c) (by decide)))) hr ho)))))
   (fun vs H Q E h => by
    obtain ⟨_, _, _, rfl, h⟩ := h
    haveI : HasCls K "Slot" := ⟨He.cls_ok (c.fact 0 rfl)⟩
    haveI : HasCls K "Even" := ⟨He.cls_ok (c.fact 1 rfl)⟩
    haveI : HasNo K "Even" "noughts" := ⟨He.noat_ok (c.fact 2 rfl)⟩
    haveI : HasNo K "Even" "ones" := ⟨He.noat_ok (c.fact 3 rfl)⟩
    haveI : HasCls K "Quick" := ⟨He.cls_ok (c.fact 4 rfl)⟩
    haveI : HasNo K "Quick" "held" := ⟨He.noat_ok (c.fact 5 rfl)⟩
    haveI : HasCls K "Run" := ⟨He.cls_ok (c.fact 6 rfl)⟩
    haveI : HasNo K "Run" "last" := ⟨He.noat_ok (c.fact 7 rfl)⟩
    haveI : HasNo K "Run" "length" := ⟨He.noat_ok (c.fact 8 rfl)⟩
    haveI : HasCls K "Book" := ⟨He.cls_ok (c.fact 9 rfl)⟩
    haveI : HasNo K "Book" "look" := ⟨He.noat_ok (c.fact 10 rfl)⟩
    haveI : HasNo K "Book" "slots" := ⟨He.noat_ok (c.fact 11 rfl)⟩
    haveI : HasCls K "Mixer" := ⟨He.cls_ok (c.fact 12 rfl)⟩
    haveI : HasNo K "Mixer" "shares" := ⟨He.noat_ok (c.fact 13 rfl)⟩
    haveI : HasCls K "Foreteller" := ⟨He.cls_ok (c.fact 14 rfl)⟩
    haveI : HasNo K "Foreteller" "kinds" := ⟨He.noat_ok (c.fact 15 rfl)⟩
    haveI : HasNo K "Foreteller" "books" := ⟨He.noat_ok (c.fact 16 rfl)⟩
    haveI : HasNo K "Foreteller" "mixer" := ⟨He.noat_ok (c.fact 17 rfl)⟩
    haveI : HasNo K "Foreteller" "ended" := ⟨He.noat_ok (c.fact 18 rfl)⟩
    haveI : HasNo K "Foreteller" "place" := ⟨He.noat_ok (c.fact 19 rfl)⟩
    haveI : HasNo K "Foreteller" "past" := ⟨He.noat_ok (c.fact 20 rfl)⟩
    haveI : HasCls K "Span" := ⟨He.cls_ok (c.fact 21 rfl)⟩
    haveI : HasNo K "Span" "low" := ⟨He.noat_ok (c.fact 22 rfl)⟩
    haveI : HasNo K "Span" "width" := ⟨He.noat_ok (c.fact 23 rfl)⟩
    haveI : HasNo K "Span" "size" := ⟨He.noat_ok (c.fact 24 rfl)⟩
    haveI : HasCls K "Seeker" := ⟨He.cls_ok (c.fact 25 rfl)⟩
    haveI : HasNo K "Seeker" "row" := ⟨He.noat_ok (c.fact 26 rfl)⟩
    haveI : HasNo K "Seeker" "span" := ⟨He.noat_ok (c.fact 27 rfl)⟩
    haveI : HasNo K "Seeker" "number" := ⟨He.noat_ok (c.fact 28 rfl)⟩
    haveI : HasNo K "Seeker" "taken" := ⟨He.noat_ok (c.fact 29 rfl)⟩
    haveI : HasCls K "Store" := ⟨He.cls_ok (c.fact 30 rfl)⟩
    haveI : HasNo K "Store" "kinds" := ⟨He.noat_ok (c.fact 31 rfl)⟩
    haveI : HasNo K "Store" "longest" := ⟨He.noat_ok (c.fact 32 rfl)⟩
    haveI : HasNo K "Store" "pieces" := ⟨He.noat_ok (c.fact 33 rfl)⟩
    haveI : HasTup K "KINDS" [.str "even", .str "quick", .str "run"] := tup_ok (c.ext 0 rfl)
    exact pure_Book_chance K h)
theorem cb_Span_narrow (KX : K.In h) (G : h.Ns mainGlobals mg) (c : SaysX fa fn xf K) : Cb P w K mg base 4 (He.fAd K ("Span", some "narrow")) ["self", "chance", "bit"] [] (sp_Span_narrow K) :=
  cb_of (T := t_Span_narrow K) (c.def_ 43 rfl) sc_Span_narrow (fun vs H Q E h => by
    obtain ⟨_, _, _, rfl, _⟩ := h
    rfl) (fun _ _ _ _ _ _ us hl => match us, hl with | [_, _, _], _ => rfl)
   (fun cdv A outer s H E hr => by
    have nd := sc_Span_narrow.nd
    have ho := out_def (cxD_takes (P := P) (w := w) (K := K) (mg := mg) (base := base) (N := N_Span_narrow) (qual := "Span.narrow") (st := s_Span_narrow) (f := He.fAd K ("Span", some "narrow")) (cdv := cdv) (A := A) (outer := outer) (s := s) (H := H) (E := E))
    have tk := cxD_takes (P := P) (w := w) (K := K) (mg := mg) (base := base) (N := N_Span_narrow) (qual := "Span.narrow") (st := s_Span_narrow) (f := He.fAd K ("Span", some "narrow")) (cdv := cdv) (A := A) (outer := outer) (s := s) (H := H) (E := E)
    have pz := cxD_passes (P := P) (w := w) (K := K) (mg := mg) (base := base) (N := N_Span_narrow) (qual := "Span.narrow") (st := s_Span_narrow) (f := He.fAd K ("Span", some "narrow")) (cdv := cdv) (A := A) (outer := outer) (s := s) (H := H) (E := E)
    exact pss_cons (ps_set (i := 3) nd rfl (by first | exact Or.inl rfl | exact Or.inr rfl) (pe_fun (cb_checked_chance KX G c) (hr.mono (by decide)) (He.glo_ok KX G (c.fact 89 rfl)) ho (pa_cons (pv 1) (pa_nil))))
       (pss_cons (ps_set (i := 4) nd rfl (by first | exact Or.inl rfl | exact Or.inr rfl) (pe_fun (cb_checked_bit KX G c) (hr.mono (by decide)) (He.glo_ok KX G (c.fact 90 rfl)) ho (pa_cons (pv 2) (pa_nil))))
       (pss_cons (ps_set (i := 5) nd rfl (by first | exact Or.inl rfl | exact Or.inr rfl) (pe_op o_floor (pe_op o_times (pe_fld (pv 0) rfl) (pv 3)) (pe_gint (He.int_ok KX G (c.fact 37 rfl)))))
       (pss_cons (ps_if (pt_cmpR (o_same hr.units) (pv 4) (pe_int) (nomark _)) (pss_one (ps_fld (pv 0) (pv 5) rfl)) (pss_cons (ps_fldaug (pv 0) (pv 5) in_add)
       (pss_one (ps_fldaug (pv 0) (pv 5) in_sub))))
       (pss_one (ps_while pz (pt_cmpR o_lt (pe_fld (pv 0) rfl) (pe_gint (He.int_ok KX G (c.fact 103 rfl))) (nomark _)) (pss_cons (ps_fld (pv 0) (pe_op o_lsh (pe_fld (pv 0) rfl) (pe_int)) rfl)
       (pss_cons (ps_fld (pv 0) (pe_op o_lsh (pe_fld (pv 0) rfl) (pe_int)) rfl)
       (pss_one (ps_fldaug (pv 0) (pe_int) in_add))))))))))
   (fun vs H Q E h => by
    obtain ⟨_, _, _, rfl, h⟩ := h
    haveI : HasCls K "Slot" := ⟨He.cls_ok (c.fact 0 rfl)⟩
    haveI : HasCls K "Even" := ⟨He.cls_ok (c.fact 1 rfl)⟩
    haveI : HasNo K "Even" "noughts" := ⟨He.noat_ok (c.fact 2 rfl)⟩
    haveI : HasNo K "Even" "ones" := ⟨He.noat_ok (c.fact 3 rfl)⟩
    haveI : HasCls K "Quick" := ⟨He.cls_ok (c.fact 4 rfl)⟩
    haveI : HasNo K "Quick" "held" := ⟨He.noat_ok (c.fact 5 rfl)⟩
    haveI : HasCls K "Run" := ⟨He.cls_ok (c.fact 6 rfl)⟩
    haveI : HasNo K "Run" "last" := ⟨He.noat_ok (c.fact 7 rfl)⟩
    haveI : HasNo K "Run" "length" := ⟨He.noat_ok (c.fact 8 rfl)⟩
    haveI : HasCls K "Book" := ⟨He.cls_ok (c.fact 9 rfl)⟩
    haveI : HasNo K "Book" "look" := ⟨He.noat_ok (c.fact 10 rfl)⟩
    haveI : HasNo K "Book" "slots" := ⟨He.noat_ok (c.fact 11 rfl)⟩
    haveI : HasCls K "Mixer" := ⟨He.cls_ok (c.fact 12 rfl)⟩
    haveI : HasNo K "Mixer" "shares" := ⟨He.noat_ok (c.fact 13 rfl)⟩
    haveI : HasCls K "Foreteller" := ⟨He.cls_ok (c.fact 14 rfl)⟩
    haveI : HasNo K "Foreteller" "kinds" := ⟨He.noat_ok (c.fact 15 rfl)⟩
    haveI : HasNo K "Foreteller" "books" := ⟨He.noat_ok (c.fact 16 rfl)⟩
    haveI : HasNo K "Foreteller" "mixer" := ⟨He.noat_ok (c.fact 17 rfl)⟩
    haveI : HasNo K "Foreteller" "ended" := ⟨He.noat_ok (c.fact 18 rfl)⟩
    haveI : HasNo K "Foreteller" "place" := ⟨He.noat_ok (c.fact 19 rfl)⟩
    haveI : HasNo K "Foreteller" "past" := ⟨He.noat_ok (c.fact 20 rfl)⟩
    haveI : HasCls K "Span" := ⟨He.cls_ok (c.fact 21 rfl)⟩
    haveI : HasNo K "Span" "low" := ⟨He.noat_ok (c.fact 22 rfl)⟩
    haveI : HasNo K "Span" "width" := ⟨He.noat_ok (c.fact 23 rfl)⟩
    haveI : HasNo K "Span" "size" := ⟨He.noat_ok (c.fact 24 rfl)⟩
    haveI : HasCls K "Seeker" := ⟨He.cls_ok (c.fact 25 rfl)⟩
    haveI : HasNo K "Seeker" "row" := ⟨He.noat_ok (c.fact 26 rfl)⟩
    haveI : HasNo K "Seeker" "span" := ⟨He.noat_ok (c.fact 27 rfl)⟩
    haveI : HasNo K "Seeker" "number" := ⟨He.noat_ok (c.fact 28 rfl)⟩
    haveI : HasNo K "Seeker" "taken" := ⟨He.noat_ok (c.fact 29 rfl)⟩
    haveI : HasCls K "Store" := ⟨He.cls_ok (c.fact 30 rfl)⟩
    haveI : HasNo K "Store" "kinds" := ⟨He.noat_ok (c.fact 31 rfl)⟩
    haveI : HasNo K "Store" "longest" := ⟨He.noat_ok (c.fact 32 rfl)⟩
    haveI : HasNo K "Store" "pieces" := ⟨He.noat_ok (c.fact 33 rfl)⟩
    haveI : HasTup K "KINDS" [.str "even", .str "quick", .str "run"] := tup_ok (c.ext 0 rfl)
    exact pure_Span_narrow K h)
theorem cb_Book_seen (KX : K.In h) (G : h.Ns mainGlobals mg) (c : SaysX fa fn xf K) : Cb P w K mg base 5 (He.fAd K ("Book", some "seen")) ["self", "signs", "node", "bit"] [] (sp_Book_seen K) :=
  cb_of (T := t_Book_seen K) (c.def_ 27 rfl) sc_Book_seen (fun vs H Q E h => by
    obtain ⟨_, _, _, _, rfl, _⟩ := h
    rfl) (fun _ _ _ _ _ _ us hl => match us, hl with | [_, _, _, _], _ => rfl)
   (fun cdv A outer s H E hr => by
    have nd := sc_Book_seen.nd
    have ho := out_def (cxD_takes (P := P) (w := w) (K := K) (mg := mg) (base := base) (N := N_Book_seen) (qual := "Book.seen") (st := s_Book_seen) (f := He.fAd K ("Book", some "seen")) (cdv := cdv) (A := A) (outer := outer) (s := s) (H := H) (E := E))
    have tk := cxD_takes (P := P) (w := w) (K := K) (mg := mg) (base := base) (N := N_Book_seen) (qual := "Book.seen") (st := s_Book_seen) (f := He.fAd K ("Book", some "seen")) (cdv := cdv) (A := A) (outer := outer) (s := s) (H := H) (E := E)
    have pz := cxD_passes (P := P) (w := w) (K := K) (mg := mg) (base := base) (N := N_Book_seen) (qual := "Book.seen") (st := s_Book_seen) (f := He.fAd K ("Book", some "seen")) (cdv := cdv) (A := A) (outer := outer) (s := s) (H := H) (E := E)
    exact pss_cons (ps_expr (pe_fun (cb_checked_bit KX G c) (hr.mono (by decide)) (He.glo_ok KX G (c.fact 90 rfl)) ho (pa_cons (pv 3) (pa_nil))))
       (pss_cons (ps_set (i := 4) nd rfl (by first | exact Or.inl rfl | exact Or.inr rfl) (pe_fun (cb_context_of KX G c) (hr.mono (by decide)) (He.glo_ok KX G (c.fact 98 rfl)) ho (pa_cons (pe_fld (pv 0) rfl) (pa_cons (pv 1) (pa_cons (pv 2) (pa_nil))))))
       (pss_cons (ps_if (pt_cmp (pc_dnotin (hu_of hr) (pv 4) (pe_fld (pv 0) rfl))) (pss_one (ps_dput (hu_of hr) (pe_fld (pv 0) rfl) (pv 4) (pe_fun (cb_slot_of KX G c) (hr.mono (by decide)) (He.glo_ok KX G (c.fact 99 rfl)) ho (pa_cons (pe_ix ix_seq (pe_fld (pv 0) rfl) (pe_int) (fun _ _ => rfl)) (pa_nil))) rfl)) (pss_nil))
       (pss_one (ps_expr (pe_mth (k := 4) (pe_dget (hu_of hr) (pe_fld (pv 0) rfl) (pv 4) (fun _ _ => rfl)) (mo_or (mo_one (He.cls_ok (c.fact 1 rfl)) (He.meth_ok (c.fact 104 rfl)) (cb_Even_seen KX G c) (by decide)) (mo_or (mo_one (He.cls_ok (c.fact 4 rfl)) (He.meth_ok (c.fact 105 rfl)) (cb_Quick_seen KX G c) (by decide)) (mo_one (He.cls_ok (c.fact 6 rfl)) (He.meth_ok (c.fact 106 rfl)) (cb_Run_seen KX G c) (by decide)))) hr ho (pa_cons (pv 3) (pa_nil))))))))
   (fun vs H Q E h => by
    obtain ⟨_, _, _, _, rfl, h⟩ := h
    haveI : HasCls K "Slot" := ⟨He.cls_ok (c.fact 0 rfl)⟩
    haveI : HasCls K "Even" := ⟨He.cls_ok (c.fact 1 rfl)⟩
    haveI : HasNo K "Even" "noughts" := ⟨He.noat_ok (c.fact 2 rfl)⟩
    haveI : HasNo K "Even" "ones" := ⟨He.noat_ok (c.fact 3 rfl)⟩
    haveI : HasCls K "Quick" := ⟨He.cls_ok (c.fact 4 rfl)⟩
    haveI : HasNo K "Quick" "held" := ⟨He.noat_ok (c.fact 5 rfl)⟩
    haveI : HasCls K "Run" := ⟨He.cls_ok (c.fact 6 rfl)⟩
    haveI : HasNo K "Run" "last" := ⟨He.noat_ok (c.fact 7 rfl)⟩
    haveI : HasNo K "Run" "length" := ⟨He.noat_ok (c.fact 8 rfl)⟩
    haveI : HasCls K "Book" := ⟨He.cls_ok (c.fact 9 rfl)⟩
    haveI : HasNo K "Book" "look" := ⟨He.noat_ok (c.fact 10 rfl)⟩
    haveI : HasNo K "Book" "slots" := ⟨He.noat_ok (c.fact 11 rfl)⟩
    haveI : HasCls K "Mixer" := ⟨He.cls_ok (c.fact 12 rfl)⟩
    haveI : HasNo K "Mixer" "shares" := ⟨He.noat_ok (c.fact 13 rfl)⟩
    haveI : HasCls K "Foreteller" := ⟨He.cls_ok (c.fact 14 rfl)⟩
    haveI : HasNo K "Foreteller" "kinds" := ⟨He.noat_ok (c.fact 15 rfl)⟩
    haveI : HasNo K "Foreteller" "books" := ⟨He.noat_ok (c.fact 16 rfl)⟩
    haveI : HasNo K "Foreteller" "mixer" := ⟨He.noat_ok (c.fact 17 rfl)⟩
    haveI : HasNo K "Foreteller" "ended" := ⟨He.noat_ok (c.fact 18 rfl)⟩
    haveI : HasNo K "Foreteller" "place" := ⟨He.noat_ok (c.fact 19 rfl)⟩
    haveI : HasNo K "Foreteller" "past" := ⟨He.noat_ok (c.fact 20 rfl)⟩
    haveI : HasCls K "Span" := ⟨He.cls_ok (c.fact 21 rfl)⟩
    haveI : HasNo K "Span" "low" := ⟨He.noat_ok (c.fact 22 rfl)⟩
    haveI : HasNo K "Span" "width" := ⟨He.noat_ok (c.fact 23 rfl)⟩
    haveI : HasNo K "Span" "size" := ⟨He.noat_ok (c.fact 24 rfl)⟩
    haveI : HasCls K "Seeker" := ⟨He.cls_ok (c.fact 25 rfl)⟩
    haveI : HasNo K "Seeker" "row" := ⟨He.noat_ok (c.fact 26 rfl)⟩
    haveI : HasNo K "Seeker" "span" := ⟨He.noat_ok (c.fact 27 rfl)⟩
    haveI : HasNo K "Seeker" "number" := ⟨He.noat_ok (c.fact 28 rfl)⟩
    haveI : HasNo K "Seeker" "taken" := ⟨He.noat_ok (c.fact 29 rfl)⟩
    haveI : HasCls K "Store" := ⟨He.cls_ok (c.fact 30 rfl)⟩
    haveI : HasNo K "Store" "kinds" := ⟨He.noat_ok (c.fact 31 rfl)⟩
    haveI : HasNo K "Store" "longest" := ⟨He.noat_ok (c.fact 32 rfl)⟩
    haveI : HasNo K "Store" "pieces" := ⟨He.noat_ok (c.fact 33 rfl)⟩
    haveI : HasTup K "KINDS" [.str "even", .str "quick", .str "run"] := tup_ok (c.ext 0 rfl)
    exact pure_Book_seen K h)
theorem cb_Mixer_learn (KX : K.In h) (G : h.Ns mainGlobals mg) (c : SaysX fa fn xf K) : Cb P w K mg base 5 (He.fAd K ("Mixer", some "learn")) ["self", "chances", "bit"] [] (sp_Mixer_learn K) :=
  cb_of (T := t_Mixer_learn K) (c.def_ 30 rfl) sc_Mixer_learn (fun vs H Q E h => by
    obtain ⟨_, _, _, rfl, _⟩ := h
    rfl) (fun _ _ _ _ _ _ us hl => match us, hl with | [_, _, _], _ => rfl)
   (fun cdv A outer s H E hr => by
    have nd := sc_Mixer_learn.nd
    have ho := out_def (cxD_takes (P := P) (w := w) (K := K) (mg := mg) (base := base) (N := N_Mixer_learn) (qual := "Mixer.learn") (st := s_Mixer_learn) (f := He.fAd K ("Mixer", some "learn")) (cdv := cdv) (A := A) (outer := outer) (s := s) (H := H) (E := E))
    have tk := cxD_takes (P := P) (w := w) (K := K) (mg := mg) (base := base) (N := N_Mixer_learn) (qual := "Mixer.learn") (st := s_Mixer_learn) (f := He.fAd K ("Mixer", some "learn")) (cdv := cdv) (A := A) (outer := outer) (s := s) (H := H) (E := E)
    have pz := cxD_passes (P := P) (w := w) (K := K) (mg := mg) (base := base) (N := N_Mixer_learn) (qual := "Mixer.learn") (st := s_Mixer_learn) (f := He.fAd K ("Mixer", some "learn")) (cdv := cdv) (A := A) (outer := outer) (s := s) (H := H) (E := E)
    exact pss_cons (ps_set (i := 3) nd rfl (by first | exact Or.inl rfl | exact Or.inr rfl) (pe_fun (cb_checked_bit KX G c) (hr.mono (by decide)) (He.glo_ok KX G (c.fact 90 rfl)) ho (pa_cons (pv 2) (pa_nil))))
       (pss_cons (ps_setLc (i := 4) (own := [("weight", 9), ("chance", 10)]) (g := gTup K 2 (gCons (gName 9) (gCons (gName 10) (gNil)))) (tt := tYes) rfl nd rfl rfl (sw_true rfl rfl rfl (by decide +kernel)) (pi_zip (by rfl) (He.free_ok KX G (c.fact 42 rfl)) (pa_cons (pe_fld (pv 0) rfl) (pa_cons (pv 1) (pa_nil)))) (blkOk_by (N := N_Mixer_learn) (sc := defScope s_Mixer_learn) (by decide +kernel)) (fun _ _ _ _ _ => pg_tup rfl (pgs_cons (pg_name (i := 9) nd rfl (by first | exact Or.inl rfl | exact Or.inr rfl)) (pgs_cons (pg_name (i := 10) nd rfl (by first | exact Or.inl rfl | exact Or.inr rfl)) (pgs_nil)))) (fun _ _ _ _ _ => pts_nil) (fun _ _ _ _ _ => pe_op o_times (pv 9) (pe_fun (cb_gives KX G c) (hr.mono (by decide)) (He.glo_ok KX G (c.fact 107 rfl)) out_none (pa_cons (pv 10) (pa_cons (pv 3) (pa_nil))))))
       (pss_cons (ps_set (i := 5) nd rfl (by first | exact Or.inl rfl | exact Or.inr rfl) (pe_callB (c_sum rfl) (by rfl) (He.free_ok KX G (c.fact 43 rfl)) (by decide +kernel) (pa_cons (pv 4) (pa_nil))))
       (pss_cons (ps_set (i := 6) nd rfl (by first | exact Or.inl rfl | exact Or.inr rfl) (pe_callB c_len (by rfl) (He.free_ok KX G (c.fact 38 rfl)) (by decide +kernel) (pa_cons (pv 4) (pa_nil))))
       (pss_cons (ps_setLc (i := 7) (own := [("part", 11)]) (g := gName 11) (tt := tYes) rfl nd rfl rfl (sw_true rfl rfl rfl (by decide +kernel)) (pi_list (pv 4)) (blkOk_by (N := N_Mixer_learn) (sc := defScope s_Mixer_learn) (by decide +kernel)) (fun _ _ _ _ _ => pg_name (i := 11) nd rfl (by first | exact Or.inl rfl | exact Or.inr rfl)) (fun _ _ _ _ _ => pts_nil) (fun _ _ _ _ _ => pe_op o_plus (pe_op o_times (pe_op o_times (pe_gint (He.int_ok KX G (c.fact 108 rfl))) (pv 6)) (pv 11)) (pv 5)))
       (pss_cons (ps_set (i := 8) nd rfl (by first | exact Or.inl rfl | exact Or.inr rfl) (pe_callB (c_max rfl) (by rfl) (He.free_ok KX G (c.fact 92 rfl)) (by decide +kernel) (pa_cons (pe_int) (pa_cons (pe_op o_minus (pe_bits (pe_callB (c_sum rfl) (by rfl) (He.free_ok KX G (c.fact 43 rfl)) (by decide +kernel) (pa_cons (pv 7) (pa_nil)))) (pe_gint (He.int_ok KX G (c.fact 109 rfl)))) (pa_nil)))))
       (pss_one (ps_fld (pv 0) (pe_lc (own := [("one", 12)]) (g := gName 12) (tt := tYes) rfl nd (pi_list (pv 7)) (blkOk_by (N := N_Mixer_learn) (sc := defScope s_Mixer_learn) (by decide +kernel)) (fun _ _ _ _ _ => pg_name (i := 12) nd rfl (by first | exact Or.inl rfl | exact Or.inr rfl)) (fun _ _ _ _ _ => pts_nil) (fun _ _ _ _ _ => pe_op o_rsh (pv 12) (pv 8))) rfl))))))))
   (fun vs H Q E h => by
    obtain ⟨_, _, _, rfl, h⟩ := h
    haveI : HasCls K "Slot" := ⟨He.cls_ok (c.fact 0 rfl)⟩
    haveI : HasCls K "Even" := ⟨He.cls_ok (c.fact 1 rfl)⟩
    haveI : HasNo K "Even" "noughts" := ⟨He.noat_ok (c.fact 2 rfl)⟩
    haveI : HasNo K "Even" "ones" := ⟨He.noat_ok (c.fact 3 rfl)⟩
    haveI : HasCls K "Quick" := ⟨He.cls_ok (c.fact 4 rfl)⟩
    haveI : HasNo K "Quick" "held" := ⟨He.noat_ok (c.fact 5 rfl)⟩
    haveI : HasCls K "Run" := ⟨He.cls_ok (c.fact 6 rfl)⟩
    haveI : HasNo K "Run" "last" := ⟨He.noat_ok (c.fact 7 rfl)⟩
    haveI : HasNo K "Run" "length" := ⟨He.noat_ok (c.fact 8 rfl)⟩
    haveI : HasCls K "Book" := ⟨He.cls_ok (c.fact 9 rfl)⟩
    haveI : HasNo K "Book" "look" := ⟨He.noat_ok (c.fact 10 rfl)⟩
    haveI : HasNo K "Book" "slots" := ⟨He.noat_ok (c.fact 11 rfl)⟩
    haveI : HasCls K "Mixer" := ⟨He.cls_ok (c.fact 12 rfl)⟩
    haveI : HasNo K "Mixer" "shares" := ⟨He.noat_ok (c.fact 13 rfl)⟩
    haveI : HasCls K "Foreteller" := ⟨He.cls_ok (c.fact 14 rfl)⟩
    haveI : HasNo K "Foreteller" "kinds" := ⟨He.noat_ok (c.fact 15 rfl)⟩
    haveI : HasNo K "Foreteller" "books" := ⟨He.noat_ok (c.fact 16 rfl)⟩
    haveI : HasNo K "Foreteller" "mixer" := ⟨He.noat_ok (c.fact 17 rfl)⟩
    haveI : HasNo K "Foreteller" "ended" := ⟨He.noat_ok (c.fact 18 rfl)⟩
    haveI : HasNo K "Foreteller" "place" := ⟨He.noat_ok (c.fact 19 rfl)⟩
    haveI : HasNo K "Foreteller" "past" := ⟨He.noat_ok (c.fact 20 rfl)⟩
    haveI : HasCls K "Span" := ⟨He.cls_ok (c.fact 21 rfl)⟩
    haveI : HasNo K "Span" "low" := ⟨He.noat_ok (c.fact 22 rfl)⟩
    haveI : HasNo K "Span" "width" := ⟨He.noat_ok (c.fact 23 rfl)⟩
    haveI : HasNo K "Span" "size" := ⟨He.noat_ok (c.fact 24 rfl)⟩
    haveI : HasCls K "Seeker" := ⟨He.cls_ok (c.fact 25 rfl)⟩
    haveI : HasNo K "Seeker" "row" := ⟨He.noat_ok (c.fact 26 rfl)⟩
    haveI : HasNo K "Seeker" "span" := ⟨He.noat_ok (c.fact 27 rfl)⟩
    haveI : HasNo K "Seeker" "number" := ⟨He.noat_ok (c.fact 28 rfl)⟩
    haveI : HasNo K "Seeker" "taken" := ⟨He.noat_ok (c.fact 29 rfl)⟩
    haveI : HasCls K "Store" := ⟨He.cls_ok (c.fact 30 rfl)⟩
    haveI : HasNo K "Store" "kinds" := ⟨He.noat_ok (c.fact 31 rfl)⟩
    haveI : HasNo K "Store" "longest" := ⟨He.noat_ok (c.fact 32 rfl)⟩
    haveI : HasNo K "Store" "pieces" := ⟨He.noat_ok (c.fact 33 rfl)⟩
    haveI : HasTup K "KINDS" [.str "even", .str "quick", .str "run"] := tup_ok (c.ext 0 rfl)
    exact pure_Mixer_learn K h)
theorem cb_Foreteller_init (KX : K.In h) (G : h.Ns mainGlobals mg) (c : SaysX fa fn xf K) : Cb P w K mg base 5 (He.fAd K ("Foreteller", some "__init__")) ["self", "looks"] [] (sp_Foreteller_init K) :=
  cb_of (T := t_Foreteller_init K) (c.def_ 31 rfl) sc_Foreteller_init (fun vs H Q E h => by
    obtain ⟨_, _, rfl, _⟩ := h
    rfl) (fun _ _ _ _ _ _ us hl => match us, hl with | [_, _], _ => rfl)
   (fun cdv A outer s H E hr => by
    have nd := sc_Foreteller_init.nd
    have ho := out_def (cxD_takes (P := P) (w := w) (K := K) (mg := mg) (base := base) (N := N_Foreteller_init) (qual := "Foreteller.__init__") (st := s_Foreteller_init) (f := He.fAd K ("Foreteller", some "__init__")) (cdv := cdv) (A := A) (outer := outer) (s := s) (H := H) (E := E))
    have tk := cxD_takes (P := P) (w := w) (K := K) (mg := mg) (base := base) (N := N_Foreteller_init) (qual := "Foreteller.__init__") (st := s_Foreteller_init) (f := He.fAd K ("Foreteller", some "__init__")) (cdv := cdv) (A := A) (outer := outer) (s := s) (H := H) (E := E)
    have pz := cxD_passes (P := P) (w := w) (K := K) (mg := mg) (base := base) (N := N_Foreteller_init) (qual := "Foreteller.__init__") (st := s_Foreteller_init) (f := He.fAd K ("Foreteller", some "__init__")) (cdv := cdv) (A := A) (outer := outer) (s := s) (H := H) (E := E)
    exact pss_cons (ps_fld (pv 0) (pe_fun (cb_checked_looks KX G c) (hr.mono (by decide)) (He.glo_ok KX G (c.fact 110 rfl)) ho (pa_cons (pv 1) (pa_nil))) rfl)
       (pss_cons (ps_fld (pv 0) (pe_lc (own := [("look", 2)]) (g := gName 2) (tt := tYes) rfl nd (pi_list (pe_fld (pv 0) rfl)) (blkOk_by (N := N_Foreteller_init) (sc := defScope s_Foreteller_init) (by decide +kernel)) (fun _ _ _ _ _ => pg_name (i := 2) nd rfl (by first | exact Or.inl rfl | exact Or.inr rfl)) (fun _ _ _ _ _ => pts_nil) (fun _ _ _ _ _ => pe_new (He.mkr_ok (c.fact 113 rfl)) (cb_Book_init KX G c) (hr.mono (by decide)) (He.glo_ok KX G (c.fact 111 rfl)) out_none (pa_cons (pv 2) (pa_nil)))) rfl)
       (pss_cons (ps_fld (pv 0) (pe_new (He.mkr_ok (c.fact 114 rfl)) (cb_Mixer_init KX G c) (hr.mono (by decide)) (He.glo_ok KX G (c.fact 112 rfl)) ho (pa_cons (pe_callB c_len (by rfl) (He.free_ok KX G (c.fact 38 rfl)) (by decide +kernel) (pa_cons (pe_fld (pv 0) rfl) (pa_nil))) (pa_nil))) rfl)
       (pss_cons (ps_fld (pv 0) (pe_lst (pa_nil)) rfl)
       (pss_cons (ps_fld (pv 0) (pe_int) rfl)
       (pss_one (ps_fld (pv 0) (pe_lst (pa_nil)) rfl)))))))
   (fun vs H Q E h => by
    obtain ⟨_, _, rfl, h⟩ := h
    haveI : HasCls K "Slot" := ⟨He.cls_ok (c.fact 0 rfl)⟩
    haveI : HasCls K "Even" := ⟨He.cls_ok (c.fact 1 rfl)⟩
    haveI : HasNo K "Even" "noughts" := ⟨He.noat_ok (c.fact 2 rfl)⟩
    haveI : HasNo K "Even" "ones" := ⟨He.noat_ok (c.fact 3 rfl)⟩
    haveI : HasCls K "Quick" := ⟨He.cls_ok (c.fact 4 rfl)⟩
    haveI : HasNo K "Quick" "held" := ⟨He.noat_ok (c.fact 5 rfl)⟩
    haveI : HasCls K "Run" := ⟨He.cls_ok (c.fact 6 rfl)⟩
    haveI : HasNo K "Run" "last" := ⟨He.noat_ok (c.fact 7 rfl)⟩
    haveI : HasNo K "Run" "length" := ⟨He.noat_ok (c.fact 8 rfl)⟩
    haveI : HasCls K "Book" := ⟨He.cls_ok (c.fact 9 rfl)⟩
    haveI : HasNo K "Book" "look" := ⟨He.noat_ok (c.fact 10 rfl)⟩
    haveI : HasNo K "Book" "slots" := ⟨He.noat_ok (c.fact 11 rfl)⟩
    haveI : HasCls K "Mixer" := ⟨He.cls_ok (c.fact 12 rfl)⟩
    haveI : HasNo K "Mixer" "shares" := ⟨He.noat_ok (c.fact 13 rfl)⟩
    haveI : HasCls K "Foreteller" := ⟨He.cls_ok (c.fact 14 rfl)⟩
    haveI : HasNo K "Foreteller" "kinds" := ⟨He.noat_ok (c.fact 15 rfl)⟩
    haveI : HasNo K "Foreteller" "books" := ⟨He.noat_ok (c.fact 16 rfl)⟩
    haveI : HasNo K "Foreteller" "mixer" := ⟨He.noat_ok (c.fact 17 rfl)⟩
    haveI : HasNo K "Foreteller" "ended" := ⟨He.noat_ok (c.fact 18 rfl)⟩
    haveI : HasNo K "Foreteller" "place" := ⟨He.noat_ok (c.fact 19 rfl)⟩
    haveI : HasNo K "Foreteller" "past" := ⟨He.noat_ok (c.fact 20 rfl)⟩
    haveI : HasCls K "Span" := ⟨He.cls_ok (c.fact 21 rfl)⟩
    haveI : HasNo K "Span" "low" := ⟨He.noat_ok (c.fact 22 rfl)⟩
    haveI : HasNo K "Span" "width" := ⟨He.noat_ok (c.fact 23 rfl)⟩
    haveI : HasNo K "Span" "size" := ⟨He.noat_ok (c.fact 24 rfl)⟩
    haveI : HasCls K "Seeker" := ⟨He.cls_ok (c.fact 25 rfl)⟩
    haveI : HasNo K "Seeker" "row" := ⟨He.noat_ok (c.fact 26 rfl)⟩
    haveI : HasNo K "Seeker" "span" := ⟨He.noat_ok (c.fact 27 rfl)⟩
    haveI : HasNo K "Seeker" "number" := ⟨He.noat_ok (c.fact 28 rfl)⟩
    haveI : HasNo K "Seeker" "taken" := ⟨He.noat_ok (c.fact 29 rfl)⟩
    haveI : HasCls K "Store" := ⟨He.cls_ok (c.fact 30 rfl)⟩
    haveI : HasNo K "Store" "kinds" := ⟨He.noat_ok (c.fact 31 rfl)⟩
    haveI : HasNo K "Store" "longest" := ⟨He.noat_ok (c.fact 32 rfl)⟩
    haveI : HasNo K "Store" "pieces" := ⟨He.noat_ok (c.fact 33 rfl)⟩
    haveI : HasTup K "KINDS" [.str "even", .str "quick", .str "run"] := tup_ok (c.ext 0 rfl)
    exact pure_Foreteller_init K h)
theorem cb_Foreteller_chances (KX : K.In h) (G : h.Ns mainGlobals mg) (c : SaysX fa fn xf K) : Cb P w K mg base 5 (He.fAd K ("Foreteller", some "chances")) ["self"] [] (sp_Foreteller_chances K) :=
  cb_of (T := t_Foreteller_chances K) (c.def_ 32 rfl) sc_Foreteller_chances (fun vs H Q E h => by
    obtain ⟨_, rfl, _⟩ := h
    rfl) (fun _ _ _ _ _ _ us hl => match us, hl with | [_], _ => rfl)
   (fun cdv A outer s H E hr => by
    have nd := sc_Foreteller_chances.nd
    have ho := out_def (cxD_takes (P := P) (w := w) (K := K) (mg := mg) (base := base) (N := N_Foreteller_chances) (qual := "Foreteller.chances") (st := s_Foreteller_chances) (f := He.fAd K ("Foreteller", some "chances")) (cdv := cdv) (A := A) (outer := outer) (s := s) (H := H) (E := E))
    have tk := cxD_takes (P := P) (w := w) (K := K) (mg := mg) (base := base) (N := N_Foreteller_chances) (qual := "Foreteller.chances") (st := s_Foreteller_chances) (f := He.fAd K ("Foreteller", some "chances")) (cdv := cdv) (A := A) (outer := outer) (s := s) (H := H) (E := E)
    have pz := cxD_passes (P := P) (w := w) (K := K) (mg := mg) (base := base) (N := N_Foreteller_chances) (qual := "Foreteller.chances") (st := s_Foreteller_chances) (f := He.fAd K ("Foreteller", some "chances")) (cdv := cdv) (A := A) (outer := outer) (s := s) (H := H) (E := E)
    exact pss_one (ps_ret (pe_lc (own := [("book", 1)]) (g := gName 1) (tt := tYes) rfl nd (pi_list (pe_fld (pv 0) rfl)) (blkOk_by (N := N_Foreteller_chances) (sc := defScope s_Foreteller_chances) (by decide +kernel)) (fun _ _ _ _ _ => pg_name (i := 1) nd rfl (by first | exact Or.inl rfl | exact Or.inr rfl)) (fun _ _ _ _ _ => pts_nil) (fun _ _ _ _ _ => pe_mth (k := 4) (pv 1) (mo_one (He.cls_ok (c.fact 9 rfl)) (He.meth_ok (c.fact 115 rfl)) (cb_Book_chance KX G c) (by decide)) hr out_none (pa_cons (pe_fld (pv 0) rfl) (pa_cons (pe_fld (pv 0) rfl) (pa_nil)))))))
   (fun vs H Q E h => by
    obtain ⟨_, rfl, h⟩ := h
    haveI : HasCls K "Slot" := ⟨He.cls_ok (c.fact 0 rfl)⟩
    haveI : HasCls K "Even" := ⟨He.cls_ok (c.fact 1 rfl)⟩
    haveI : HasNo K "Even" "noughts" := ⟨He.noat_ok (c.fact 2 rfl)⟩
    haveI : HasNo K "Even" "ones" := ⟨He.noat_ok (c.fact 3 rfl)⟩
    haveI : HasCls K "Quick" := ⟨He.cls_ok (c.fact 4 rfl)⟩
    haveI : HasNo K "Quick" "held" := ⟨He.noat_ok (c.fact 5 rfl)⟩
    haveI : HasCls K "Run" := ⟨He.cls_ok (c.fact 6 rfl)⟩
    haveI : HasNo K "Run" "last" := ⟨He.noat_ok (c.fact 7 rfl)⟩
    haveI : HasNo K "Run" "length" := ⟨He.noat_ok (c.fact 8 rfl)⟩
    haveI : HasCls K "Book" := ⟨He.cls_ok (c.fact 9 rfl)⟩
    haveI : HasNo K "Book" "look" := ⟨He.noat_ok (c.fact 10 rfl)⟩
    haveI : HasNo K "Book" "slots" := ⟨He.noat_ok (c.fact 11 rfl)⟩
    haveI : HasCls K "Mixer" := ⟨He.cls_ok (c.fact 12 rfl)⟩
    haveI : HasNo K "Mixer" "shares" := ⟨He.noat_ok (c.fact 13 rfl)⟩
    haveI : HasCls K "Foreteller" := ⟨He.cls_ok (c.fact 14 rfl)⟩
    haveI : HasNo K "Foreteller" "kinds" := ⟨He.noat_ok (c.fact 15 rfl)⟩
    haveI : HasNo K "Foreteller" "books" := ⟨He.noat_ok (c.fact 16 rfl)⟩
    haveI : HasNo K "Foreteller" "mixer" := ⟨He.noat_ok (c.fact 17 rfl)⟩
    haveI : HasNo K "Foreteller" "ended" := ⟨He.noat_ok (c.fact 18 rfl)⟩
    haveI : HasNo K "Foreteller" "place" := ⟨He.noat_ok (c.fact 19 rfl)⟩
    haveI : HasNo K "Foreteller" "past" := ⟨He.noat_ok (c.fact 20 rfl)⟩
    haveI : HasCls K "Span" := ⟨He.cls_ok (c.fact 21 rfl)⟩
    haveI : HasNo K "Span" "low" := ⟨He.noat_ok (c.fact 22 rfl)⟩
    haveI : HasNo K "Span" "width" := ⟨He.noat_ok (c.fact 23 rfl)⟩
    haveI : HasNo K "Span" "size" := ⟨He.noat_ok (c.fact 24 rfl)⟩
    haveI : HasCls K "Seeker" := ⟨He.cls_ok (c.fact 25 rfl)⟩
    haveI : HasNo K "Seeker" "row" := ⟨He.noat_ok (c.fact 26 rfl)⟩
    haveI : HasNo K "Seeker" "span" := ⟨He.noat_ok (c.fact 27 rfl)⟩
    haveI : HasNo K "Seeker" "number" := ⟨He.noat_ok (c.fact 28 rfl)⟩
    haveI : HasNo K "Seeker" "taken" := ⟨He.noat_ok (c.fact 29 rfl)⟩
    haveI : HasCls K "Store" := ⟨He.cls_ok (c.fact 30 rfl)⟩
    haveI : HasNo K "Store" "kinds" := ⟨He.noat_ok (c.fact 31 rfl)⟩
    haveI : HasNo K "Store" "longest" := ⟨He.noat_ok (c.fact 32 rfl)⟩
    haveI : HasNo K "Store" "pieces" := ⟨He.noat_ok (c.fact 33 rfl)⟩
    haveI : HasTup K "KINDS" [.str "even", .str "quick", .str "run"] := tup_ok (c.ext 0 rfl)
    exact pure_Foreteller_chances K h)
theorem cb_decisions_of (KX : K.In h) (G : h.Ns mainGlobals mg) (c : SaysX fa fn xf K) : Cb P w K mg base 5 (He.fAd K ("decisions_of", none)) ["text"] [] (sp_decisions_of K) :=
  cb_of (T := t_decisions_of K) (c.def_ 39 rfl) sc_decisions_of (fun vs H Q E h => by
    obtain ⟨_, rfl, _⟩ := h
    rfl) (fun _ _ _ _ _ _ us hl => match us, hl with | [_], _ => rfl)
   (fun cdv A outer s H E hr => by
    have nd := sc_decisions_of.nd
    have ho := out_def (cxD_takes (P := P) (w := w) (K := K) (mg := mg) (base := base) (N := N_decisions_of) (qual := "decisions_of") (st := s_decisions_of) (f := He.fAd K ("decisions_of", none)) (cdv := cdv) (A := A) (outer := outer) (s := s) (H := H) (E := E))
    have tk := cxD_takes (P := P) (w := w) (K := K) (mg := mg) (base := base) (N := N_decisions_of) (qual := "decisions_of") (st := s_decisions_of) (f := He.fAd K ("decisions_of", none)) (cdv := cdv) (A := A) (outer := outer) (s := s) (H := H) (E := E)
    have pz := cxD_passes (P := P) (w := w) (K := K) (mg := mg) (base := base) (N := N_decisions_of) (qual := "decisions_of") (st := s_decisions_of) (f := He.fAd K ("decisions_of", none)) (cdv := cdv) (A := A) (outer := outer) (s := s) (H := H) (E := E)
    exact pss_cons (ps_set (i := 1) nd rfl (by first | exact Or.inl rfl | exact Or.inr rfl) (pe_lst (pa_nil)))
       (pss_cons (ps_for pz rfl (pi_list (pe_fun (cb_checked_text KX G c) (hr.mono (by decide)) (He.glo_ok KX G (c.fact 116 rfl)) ho (pa_cons (pv 0) (pa_nil)))) (pg_name (i := 2) nd rfl (by first | exact Or.inl rfl | exact Or.inr rfl)) (pss_cons (ps_expr (pe_bm PySem.F.plainAttrs_list PySem.F.slot_list_append PySem.F.type_list_append mt_append (pv 1) (pa_cons (pe_int) (pa_nil))))
       (pss_one (ps_expr (pe_bm PySem.F.plainAttrs_list PySem.F.slot_list_extend PySem.F.type_list_extend mt_extend (pv 1) (pa_cons (pe_fun (cb_bits_of KX G c) (hr.mono (by decide)) (He.glo_ok KX G (c.fact 117 rfl)) ho (pa_cons (pv 2) (pa_nil))) (pa_nil)))))))
       (pss_cons (ps_expr (pe_bm PySem.F.plainAttrs_list PySem.F.slot_list_append PySem.F.type_list_append mt_append (pv 1) (pa_cons (pe_int) (pa_nil))))
       (pss_one (ps_ret (pv 1))))))
   (fun vs H Q E h => by
    obtain ⟨_, rfl, h⟩ := h
    haveI : HasCls K "Slot" := ⟨He.cls_ok (c.fact 0 rfl)⟩
    haveI : HasCls K "Even" := ⟨He.cls_ok (c.fact 1 rfl)⟩
    haveI : HasNo K "Even" "noughts" := ⟨He.noat_ok (c.fact 2 rfl)⟩
    haveI : HasNo K "Even" "ones" := ⟨He.noat_ok (c.fact 3 rfl)⟩
    haveI : HasCls K "Quick" := ⟨He.cls_ok (c.fact 4 rfl)⟩
    haveI : HasNo K "Quick" "held" := ⟨He.noat_ok (c.fact 5 rfl)⟩
    haveI : HasCls K "Run" := ⟨He.cls_ok (c.fact 6 rfl)⟩
    haveI : HasNo K "Run" "last" := ⟨He.noat_ok (c.fact 7 rfl)⟩
    haveI : HasNo K "Run" "length" := ⟨He.noat_ok (c.fact 8 rfl)⟩
    haveI : HasCls K "Book" := ⟨He.cls_ok (c.fact 9 rfl)⟩
    haveI : HasNo K "Book" "look" := ⟨He.noat_ok (c.fact 10 rfl)⟩
    haveI : HasNo K "Book" "slots" := ⟨He.noat_ok (c.fact 11 rfl)⟩
    haveI : HasCls K "Mixer" := ⟨He.cls_ok (c.fact 12 rfl)⟩
    haveI : HasNo K "Mixer" "shares" := ⟨He.noat_ok (c.fact 13 rfl)⟩
    haveI : HasCls K "Foreteller" := ⟨He.cls_ok (c.fact 14 rfl)⟩
    haveI : HasNo K "Foreteller" "kinds" := ⟨He.noat_ok (c.fact 15 rfl)⟩
    haveI : HasNo K "Foreteller" "books" := ⟨He.noat_ok (c.fact 16 rfl)⟩
    haveI : HasNo K "Foreteller" "mixer" := ⟨He.noat_ok (c.fact 17 rfl)⟩
    haveI : HasNo K "Foreteller" "ended" := ⟨He.noat_ok (c.fact 18 rfl)⟩
    haveI : HasNo K "Foreteller" "place" := ⟨He.noat_ok (c.fact 19 rfl)⟩
    haveI : HasNo K "Foreteller" "past" := ⟨He.noat_ok (c.fact 20 rfl)⟩
    haveI : HasCls K "Span" := ⟨He.cls_ok (c.fact 21 rfl)⟩
    haveI : HasNo K "Span" "low" := ⟨He.noat_ok (c.fact 22 rfl)⟩
    haveI : HasNo K "Span" "width" := ⟨He.noat_ok (c.fact 23 rfl)⟩
    haveI : HasNo K "Span" "size" := ⟨He.noat_ok (c.fact 24 rfl)⟩
    haveI : HasCls K "Seeker" := ⟨He.cls_ok (c.fact 25 rfl)⟩
    haveI : HasNo K "Seeker" "row" := ⟨He.noat_ok (c.fact 26 rfl)⟩
    haveI : HasNo K "Seeker" "span" := ⟨He.noat_ok (c.fact 27 rfl)⟩
    haveI : HasNo K "Seeker" "number" := ⟨He.noat_ok (c.fact 28 rfl)⟩
    haveI : HasNo K "Seeker" "taken" := ⟨He.noat_ok (c.fact 29 rfl)⟩
    haveI : HasCls K "Store" := ⟨He.cls_ok (c.fact 30 rfl)⟩
    haveI : HasNo K "Store" "kinds" := ⟨He.noat_ok (c.fact 31 rfl)⟩
    haveI : HasNo K "Store" "longest" := ⟨He.noat_ok (c.fact 32 rfl)⟩
    haveI : HasNo K "Store" "pieces" := ⟨He.noat_ok (c.fact 33 rfl)⟩
    haveI : HasTup K "KINDS" [.str "even", .str "quick", .str "run"] := tup_ok (c.ext 0 rfl)
    exact pure_decisions_of K h)
theorem cb_Seeker_init (KX : K.In h) (G : h.Ns mainGlobals mg) (c : SaysX fa fn xf K) : Cb P w K mg base 5 (He.fAd K ("Seeker", some "__init__")) ["self", "data"] [] (sp_Seeker_init K) :=
  cb_of (T := t_Seeker_init K) (c.def_ 45 rfl) sc_Seeker_init (fun vs H Q E h => by
    obtain ⟨_, _, rfl, _⟩ := h
    rfl) (fun _ _ _ _ _ _ us hl => match us, hl with | [_, _], _ => rfl)
   (fun cdv A outer s H E hr => by
    have nd := sc_Seeker_init.nd
    have ho := out_def (cxD_takes (P := P) (w := w) (K := K) (mg := mg) (base := base) (N := N_Seeker_init) (qual := "Seeker.__init__") (st := s_Seeker_init) (f := He.fAd K ("Seeker", some "__init__")) (cdv := cdv) (A := A) (outer := outer) (s := s) (H := H) (E := E))
    have tk := cxD_takes (P := P) (w := w) (K := K) (mg := mg) (base := base) (N := N_Seeker_init) (qual := "Seeker.__init__") (st := s_Seeker_init) (f := He.fAd K ("Seeker", some "__init__")) (cdv := cdv) (A := A) (outer := outer) (s := s) (H := H) (E := E)
    have pz := cxD_passes (P := P) (w := w) (K := K) (mg := mg) (base := base) (N := N_Seeker_init) (qual := "Seeker.__init__") (st := s_Seeker_init) (f := He.fAd K ("Seeker", some "__init__")) (cdv := cdv) (A := A) (outer := outer) (s := s) (H := H) (E := E)
    exact pss_cons (ps_fld (pv 0) (pe_fun (cb_checked_bytes KX G c) (hr.mono (by decide)) (He.glo_ok KX G (c.fact 118 rfl)) ho (pa_cons (pv 1) (pa_nil))) rfl)
       (pss_cons (ps_fld (pv 0) (pe_new0 (He.mkr_ok (c.fact 121 rfl)) (cb_Span_init KX G c) (hr.mono (by decide)) (He.glo_ok KX G (c.fact 119 rfl)) ho) rfl)
       (pss_cons (ps_fld (pv 0) (pe_int) rfl)
       (pss_cons (ps_fld (pv 0) (pe_int) rfl)
       (pss_one (ps_expr (pe_mth0 (k := 4) (pv 0) (mo_one (He.cls_ok (c.fact 25 rfl)) (He.meth_ok (c.fact 120 rfl)) (cb_Seeker_take KX G c) (by decide)) hr ho)))))))
   (fun vs H Q E h => by
    obtain ⟨_, _, rfl, h⟩ := h
    haveI : HasCls K "Slot" := ⟨He.cls_ok (c.fact 0 rfl)⟩
    haveI : HasCls K "Even" := ⟨He.cls_ok (c.fact 1 rfl)⟩
    haveI : HasNo K "Even" "noughts" := ⟨He.noat_ok (c.fact 2 rfl)⟩
    haveI : HasNo K "Even" "ones" := ⟨He.noat_ok (c.fact 3 rfl)⟩
    haveI : HasCls K "Quick" := ⟨He.cls_ok (c.fact 4 rfl)⟩
    haveI : HasNo K "Quick" "held" := ⟨He.noat_ok (c.fact 5 rfl)⟩
    haveI : HasCls K "Run" := ⟨He.cls_ok (c.fact 6 rfl)⟩
    haveI : HasNo K "Run" "last" := ⟨He.noat_ok (c.fact 7 rfl)⟩
    haveI : HasNo K "Run" "length" := ⟨He.noat_ok (c.fact 8 rfl)⟩
    haveI : HasCls K "Book" := ⟨He.cls_ok (c.fact 9 rfl)⟩
    haveI : HasNo K "Book" "look" := ⟨He.noat_ok (c.fact 10 rfl)⟩
    haveI : HasNo K "Book" "slots" := ⟨He.noat_ok (c.fact 11 rfl)⟩
    haveI : HasCls K "Mixer" := ⟨He.cls_ok (c.fact 12 rfl)⟩
    haveI : HasNo K "Mixer" "shares" := ⟨He.noat_ok (c.fact 13 rfl)⟩
    haveI : HasCls K "Foreteller" := ⟨He.cls_ok (c.fact 14 rfl)⟩
    haveI : HasNo K "Foreteller" "kinds" := ⟨He.noat_ok (c.fact 15 rfl)⟩
    haveI : HasNo K "Foreteller" "books" := ⟨He.noat_ok (c.fact 16 rfl)⟩
    haveI : HasNo K "Foreteller" "mixer" := ⟨He.noat_ok (c.fact 17 rfl)⟩
    haveI : HasNo K "Foreteller" "ended" := ⟨He.noat_ok (c.fact 18 rfl)⟩
    haveI : HasNo K "Foreteller" "place" := ⟨He.noat_ok (c.fact 19 rfl)⟩
    haveI : HasNo K "Foreteller" "past" := ⟨He.noat_ok (c.fact 20 rfl)⟩
    haveI : HasCls K "Span" := ⟨He.cls_ok (c.fact 21 rfl)⟩
    haveI : HasNo K "Span" "low" := ⟨He.noat_ok (c.fact 22 rfl)⟩
    haveI : HasNo K "Span" "width" := ⟨He.noat_ok (c.fact 23 rfl)⟩
    haveI : HasNo K "Span" "size" := ⟨He.noat_ok (c.fact 24 rfl)⟩
    haveI : HasCls K "Seeker" := ⟨He.cls_ok (c.fact 25 rfl)⟩
    haveI : HasNo K "Seeker" "row" := ⟨He.noat_ok (c.fact 26 rfl)⟩
    haveI : HasNo K "Seeker" "span" := ⟨He.noat_ok (c.fact 27 rfl)⟩
    haveI : HasNo K "Seeker" "number" := ⟨He.noat_ok (c.fact 28 rfl)⟩
    haveI : HasNo K "Seeker" "taken" := ⟨He.noat_ok (c.fact 29 rfl)⟩
    haveI : HasCls K "Store" := ⟨He.cls_ok (c.fact 30 rfl)⟩
    haveI : HasNo K "Store" "kinds" := ⟨He.noat_ok (c.fact 31 rfl)⟩
    haveI : HasNo K "Store" "longest" := ⟨He.noat_ok (c.fact 32 rfl)⟩
    haveI : HasNo K "Store" "pieces" := ⟨He.noat_ok (c.fact 33 rfl)⟩
    haveI : HasTup K "KINDS" [.str "even", .str "quick", .str "run"] := tup_ok (c.ext 0 rfl)
    exact pure_Seeker_init K h)
theorem cb_Seeker_bit (KX : K.In h) (G : h.Ns mainGlobals mg) (c : SaysX fa fn xf K) : Cb P w K mg base 5 (He.fAd K ("Seeker", some "bit")) ["self", "chance"] [] (sp_Seeker_bit K) :=
  cb_of (T := t_Seeker_bit K) (c.def_ 47 rfl) sc_Seeker_bit (fun vs H Q E h => by
    obtain ⟨_, _, rfl, _⟩ := h
    rfl) (fun _ _ _ _ _ _ us hl => match us, hl with | [_, _], _ => rfl)
   (fun cdv A outer s H E hr => by
    have nd := sc_Seeker_bit.nd
    have ho := out_def (cxD_takes (P := P) (w := w) (K := K) (mg := mg) (base := base) (N := N_Seeker_bit) (qual := "Seeker.bit") (st := s_Seeker_bit) (f := He.fAd K ("Seeker", some "bit")) (cdv := cdv) (A := A) (outer := outer) (s := s) (H := H) (E := E))
    have tk := cxD_takes (P := P) (w := w) (K := K) (mg := mg) (base := base) (N := N_Seeker_bit) (qual := "Seeker.bit") (st := s_Seeker_bit) (f := He.fAd K ("Seeker", some "bit")) (cdv := cdv) (A := A) (outer := outer) (s := s) (H := H) (E := E)
    have pz := cxD_passes (P := P) (w := w) (K := K) (mg := mg) (base := base) (N := N_Seeker_bit) (qual := "Seeker.bit") (st := s_Seeker_bit) (f := He.fAd K ("Seeker", some "bit")) (cdv := cdv) (A := A) (outer := outer) (s := s) (H := H) (E := E)
    exact pss_cons (ps_set (i := 2) nd rfl (by first | exact Or.inl rfl | exact Or.inr rfl) (pe_fun (cb_checked_chance KX G c) (hr.mono (by decide)) (He.glo_ok KX G (c.fact 89 rfl)) ho (pa_cons (pv 1) (pa_nil))))
       (pss_cons (ps_asg (pe_mth0 (k := 4) (pe_fld (pv 0) rfl) (mo_one (He.cls_ok (c.fact 21 rfl)) (He.meth_ok (c.fact 59 rfl)) (cb_Span_ends KX G c) (by decide)) hr ho) (pg_tup rfl (pgs_cons (pg_name (i := 3) nd rfl (by first | exact Or.inl rfl | exact Or.inr rfl)) (pgs_cons (pg_name (i := 4) nd rfl (by first | exact Or.inl rfl | exact Or.inr rfl)) (pgs_cons (pg_name (i := 5) nd rfl (by first | exact Or.inl rfl | exact Or.inr rfl)) (pgs_nil))))))
       (pss_cons (ps_set (i := 6) nd rfl (by first | exact Or.inl rfl | exact Or.inr rfl) (pe_callTy c_int (by rfl) (He.free_ok KX G (c.fact 35 rfl)) (by decide +kernel) (pa_cons (pe_cmpR o_lt (pe_fld (pv 0) rfl) (pe_op o_plus (pv 3) (pe_op o_floor (pe_op o_times (pv 4) (pv 2)) (pe_gint (He.int_ok KX G (c.fact 37 rfl))))) (nomark _)) (pa_nil))))
       (pss_cons (ps_expr (pe_mth (k := 4) (pe_fld (pv 0) rfl) (mo_one (He.cls_ok (c.fact 21 rfl)) (He.meth_ok (c.fact 122 rfl)) (cb_Span_narrow KX G c) (by decide)) hr ho (pa_cons (pv 2) (pa_cons (pv 6) (pa_nil)))))
       (pss_cons (ps_expr (pe_mth0 (k := 4) (pv 0) (mo_one (He.cls_ok (c.fact 25 rfl)) (He.meth_ok (c.fact 120 rfl)) (cb_Seeker_take KX G c) (by decide)) hr ho))
       (pss_one (ps_ret (pv 6))))))))
   (fun vs H Q E h => by
    obtain ⟨_, _, rfl, h⟩ := h
    haveI : HasCls K "Slot" := ⟨He.cls_ok (c.fact 0 rfl)⟩
    haveI : HasCls K "Even" := ⟨He.cls_ok (c.fact 1 rfl)⟩
    haveI : HasNo K "Even" "noughts" := ⟨He.noat_ok (c.fact 2 rfl)⟩
    haveI : HasNo K "Even" "ones" := ⟨He.noat_ok (c.fact 3 rfl)⟩
    haveI : HasCls K "Quick" := ⟨He.cls_ok (c.fact 4 rfl)⟩
    haveI : HasNo K "Quick" "held" := ⟨He.noat_ok (c.fact 5 rfl)⟩
    haveI : HasCls K "Run" := ⟨He.cls_ok (c.fact 6 rfl)⟩
    haveI : HasNo K "Run" "last" := ⟨He.noat_ok (c.fact 7 rfl)⟩
    haveI : HasNo K "Run" "length" := ⟨He.noat_ok (c.fact 8 rfl)⟩
    haveI : HasCls K "Book" := ⟨He.cls_ok (c.fact 9 rfl)⟩
    haveI : HasNo K "Book" "look" := ⟨He.noat_ok (c.fact 10 rfl)⟩
    haveI : HasNo K "Book" "slots" := ⟨He.noat_ok (c.fact 11 rfl)⟩
    haveI : HasCls K "Mixer" := ⟨He.cls_ok (c.fact 12 rfl)⟩
    haveI : HasNo K "Mixer" "shares" := ⟨He.noat_ok (c.fact 13 rfl)⟩
    haveI : HasCls K "Foreteller" := ⟨He.cls_ok (c.fact 14 rfl)⟩
    haveI : HasNo K "Foreteller" "kinds" := ⟨He.noat_ok (c.fact 15 rfl)⟩
    haveI : HasNo K "Foreteller" "books" := ⟨He.noat_ok (c.fact 16 rfl)⟩
    haveI : HasNo K "Foreteller" "mixer" := ⟨He.noat_ok (c.fact 17 rfl)⟩
    haveI : HasNo K "Foreteller" "ended" := ⟨He.noat_ok (c.fact 18 rfl)⟩
    haveI : HasNo K "Foreteller" "place" := ⟨He.noat_ok (c.fact 19 rfl)⟩
    haveI : HasNo K "Foreteller" "past" := ⟨He.noat_ok (c.fact 20 rfl)⟩
    haveI : HasCls K "Span" := ⟨He.cls_ok (c.fact 21 rfl)⟩
    haveI : HasNo K "Span" "low" := ⟨He.noat_ok (c.fact 22 rfl)⟩
    haveI : HasNo K "Span" "width" := ⟨He.noat_ok (c.fact 23 rfl)⟩
    haveI : HasNo K "Span" "size" := ⟨He.noat_ok (c.fact 24 rfl)⟩
    haveI : HasCls K "Seeker" := ⟨He.cls_ok (c.fact 25 rfl)⟩
    haveI : HasNo K "Seeker" "row" := ⟨He.noat_ok (c.fact 26 rfl)⟩
    haveI : HasNo K "Seeker" "span" := ⟨He.noat_ok (c.fact 27 rfl)⟩
    haveI : HasNo K "Seeker" "number" := ⟨He.noat_ok (c.fact 28 rfl)⟩
    haveI : HasNo K "Seeker" "taken" := ⟨He.noat_ok (c.fact 29 rfl)⟩
    haveI : HasCls K "Store" := ⟨He.cls_ok (c.fact 30 rfl)⟩
    haveI : HasNo K "Store" "kinds" := ⟨He.noat_ok (c.fact 31 rfl)⟩
    haveI : HasNo K "Store" "longest" := ⟨He.noat_ok (c.fact 32 rfl)⟩
    haveI : HasNo K "Store" "pieces" := ⟨He.noat_ok (c.fact 33 rfl)⟩
    haveI : HasTup K "KINDS" [.str "even", .str "quick", .str "run"] := tup_ok (c.ext 0 rfl)
    exact pure_Seeker_bit K h)
theorem cd_Store_init (KX : K.In h) (G : h.Ns mainGlobals mg) (c : SaysX fa fn xf K) : ∃ fd, FunD K "__init__" "Store.__init__" (defArgs s_Store_init) (defBody s_Store_init) (defScope s_Store_init) [.int 1000] [] (He.fAd K ("Store", some "__init__")) fd ∧ FnOk P w K mg base (L2.CX P w) 5 (He.fAd K ("Store", some "__init__")) fd ["self", "looks", "most"] (sp_Store_init K) := by
  obtain ⟨fd, F⟩ := c.def_ 52 rfl
  exact ⟨fd, F, ok_of (T := t_Store_init K) F sc_Store_init (fun vs H Q E h => by
    obtain ⟨_, _, _, rfl, _⟩ := h
    rfl)
   (fun cdv A outer s H E hr => by
    have nd := sc_Store_init.nd
    have ho := out_def (cxD_takes (P := P) (w := w) (K := K) (mg := mg) (base := base) (N := N_Store_init) (qual := "Store.__init__") (st := s_Store_init) (f := He.fAd K ("Store", some "__init__")) (cdv := cdv) (A := A) (outer := outer) (s := s) (H := H) (E := E))
    have tk := cxD_takes (P := P) (w := w) (K := K) (mg := mg) (base := base) (N := N_Store_init) (qual := "Store.__init__") (st := s_Store_init) (f := He.fAd K ("Store", some "__init__")) (cdv := cdv) (A := A) (outer := outer) (s := s) (H := H) (E := E)
    have pz := cxD_passes (P := P) (w := w) (K := K) (mg := mg) (base := base) (N := N_Store_init) (qual := "Store.__init__") (st := s_Store_init) (f := He.fAd K ("Store", some "__init__")) (cdv := cdv) (A := A) (outer := outer) (s := s) (H := H) (E := E)
    exact pss_cons (ps_fld (pv 0) (pe_fun (cb_checked_looks KX G c) (hr.mono (by decide)) (He.glo_ok KX G (c.fact 110 rfl)) ho (pa_cons (pv 1) (pa_nil))) rfl)
       (pss_cons (ps_fld (pv 0) (pe_fun (cb_checked_most KX G c) (hr.mono (by decide)) (He.glo_ok KX G (c.fact 123 rfl)) ho (pa_cons (pv 2) (pa_nil))) rfl)
       (pss_one (ps_fld (pv 0) (pe_dnewK) rfl))))
   (fun vs H Q E h => by
    obtain ⟨_, _, _, rfl, h⟩ := h
    haveI : HasCls K "Slot" := ⟨He.cls_ok (c.fact 0 rfl)⟩
    haveI : HasCls K "Even" := ⟨He.cls_ok (c.fact 1 rfl)⟩
    haveI : HasNo K "Even" "noughts" := ⟨He.noat_ok (c.fact 2 rfl)⟩
    haveI : HasNo K "Even" "ones" := ⟨He.noat_ok (c.fact 3 rfl)⟩
    haveI : HasCls K "Quick" := ⟨He.cls_ok (c.fact 4 rfl)⟩
    haveI : HasNo K "Quick" "held" := ⟨He.noat_ok (c.fact 5 rfl)⟩
    haveI : HasCls K "Run" := ⟨He.cls_ok (c.fact 6 rfl)⟩
    haveI : HasNo K "Run" "last" := ⟨He.noat_ok (c.fact 7 rfl)⟩
    haveI : HasNo K "Run" "length" := ⟨He.noat_ok (c.fact 8 rfl)⟩
    haveI : HasCls K "Book" := ⟨He.cls_ok (c.fact 9 rfl)⟩
    haveI : HasNo K "Book" "look" := ⟨He.noat_ok (c.fact 10 rfl)⟩
    haveI : HasNo K "Book" "slots" := ⟨He.noat_ok (c.fact 11 rfl)⟩
    haveI : HasCls K "Mixer" := ⟨He.cls_ok (c.fact 12 rfl)⟩
    haveI : HasNo K "Mixer" "shares" := ⟨He.noat_ok (c.fact 13 rfl)⟩
    haveI : HasCls K "Foreteller" := ⟨He.cls_ok (c.fact 14 rfl)⟩
    haveI : HasNo K "Foreteller" "kinds" := ⟨He.noat_ok (c.fact 15 rfl)⟩
    haveI : HasNo K "Foreteller" "books" := ⟨He.noat_ok (c.fact 16 rfl)⟩
    haveI : HasNo K "Foreteller" "mixer" := ⟨He.noat_ok (c.fact 17 rfl)⟩
    haveI : HasNo K "Foreteller" "ended" := ⟨He.noat_ok (c.fact 18 rfl)⟩
    haveI : HasNo K "Foreteller" "place" := ⟨He.noat_ok (c.fact 19 rfl)⟩
    haveI : HasNo K "Foreteller" "past" := ⟨He.noat_ok (c.fact 20 rfl)⟩
    haveI : HasCls K "Span" := ⟨He.cls_ok (c.fact 21 rfl)⟩
    haveI : HasNo K "Span" "low" := ⟨He.noat_ok (c.fact 22 rfl)⟩
    haveI : HasNo K "Span" "width" := ⟨He.noat_ok (c.fact 23 rfl)⟩
    haveI : HasNo K "Span" "size" := ⟨He.noat_ok (c.fact 24 rfl)⟩
    haveI : HasCls K "Seeker" := ⟨He.cls_ok (c.fact 25 rfl)⟩
    haveI : HasNo K "Seeker" "row" := ⟨He.noat_ok (c.fact 26 rfl)⟩
    haveI : HasNo K "Seeker" "span" := ⟨He.noat_ok (c.fact 27 rfl)⟩
    haveI : HasNo K "Seeker" "number" := ⟨He.noat_ok (c.fact 28 rfl)⟩
    haveI : HasNo K "Seeker" "taken" := ⟨He.noat_ok (c.fact 29 rfl)⟩
    haveI : HasCls K "Store" := ⟨He.cls_ok (c.fact 30 rfl)⟩
    haveI : HasNo K "Store" "kinds" := ⟨He.noat_ok (c.fact 31 rfl)⟩
    haveI : HasNo K "Store" "longest" := ⟨He.noat_ok (c.fact 32 rfl)⟩
    haveI : HasNo K "Store" "pieces" := ⟨He.noat_ok (c.fact 33 rfl)⟩
    haveI : HasTup K "KINDS" [.str "even", .str "quick", .str "run"] := tup_ok (c.ext 0 rfl)
    exact pure_Store_init K h)⟩
theorem cb_Store_init_1 (KX : K.In h) (G : h.Ns mainGlobals mg) (c : SaysX fa fn xf K) : Cb P w K mg base 5 (He.fAd K ("Store", some "__init__")) ["self", "looks", "most"] [.int 1000] (sp_Store_init K) := by
  obtain ⟨fd, F, O⟩ := cd_Store_init (P := P) (w := w) (base := base) KX G c
  obtain ⟨ds, hv, hb⟩ := F.binds1 (ps := ["self", "looks", "most"]) 2 0 (by simp) rfl (fun _ _ _ _ _ _ _ us its h1 h2 => match us, its, h1, h2 with | [_, _], [_], _, _ => ⟨_, rfl, rfl⟩)
  exact ⟨⟨fd, ds, O, hb, hv⟩, F.kp⟩
theorem cb_Store_fitting (KX : K.In h) (G : h.Ns mainGlobals mg) (c : SaysX fa fn xf K) : Cb P w K mg base 5 (He.fAd K ("Store", some "fitting")) ["self", "text"] [] (sp_Store_fitting K) :=
  cb_of (T := t_Store_fitting K) (c.def_ 56 rfl) sc_Store_fitting (fun vs H Q E h => by
    obtain ⟨_, _, rfl, _⟩ := h
    rfl) (fun _ _ _ _ _ _ us hl => match us, hl with | [_, _], _ => rfl)
   (fun cdv A outer s H E hr => by
    have nd := sc_Store_fitting.nd
    have ho := out_def (cxD_takes (P := P) (w := w) (K := K) (mg := mg) (base := base) (N := N_Store_fitting) (qual := "Store.fitting") (st := s_Store_fitting) (f := He.fAd K ("Store", some "fitting")) (cdv := cdv) (A := A) (outer := outer) (s := s) (H := H) (E := E))
    have tk := cxD_takes (P := P) (w := w) (K := K) (mg := mg) (base := base) (N := N_Store_fitting) (qual := "Store.fitting") (st := s_Store_fitting) (f := He.fAd K ("Store", some "fitting")) (cdv := cdv) (A := A) (outer := outer) (s := s) (H := H) (E := E)
    have pz := cxD_passes (P := P) (w := w) (K := K) (mg := mg) (base := base) (N := N_Store_fitting) (qual := "Store.fitting") (st := s_Store_fitting) (f := He.fAd K ("Store", some "fitting")) (cdv := cdv) (A := A) (outer := outer) (s := s) (H := H) (E := E)
    exact pss_cons (ps_set (i := 2) nd rfl (by first | exact Or.inl rfl | exact Or.inr rfl) (pe_fun (cb_checked_text KX G c) (hr.mono (by decide)) (He.glo_ok KX G (c.fact 116 rfl)) ho (pa_cons (pv 1) (pa_nil))))
       (pss_cons (ps_if (pt_cmpR o_gt (pe_callB c_len (by rfl) (He.free_ok KX G (c.fact 38 rfl)) (by decide +kernel) (pa_cons (pv 2) (pa_nil))) (pe_fld (pv 0) rfl) (nomark _)) (pss_one (ps_rz (exn_ok KX G (c.fact 124 rfl) (c.fact 125 rfl)) rfl tk)) (pss_nil))
       (pss_one (ps_ret (pv 2)))))
   (fun vs H Q E h => by
    obtain ⟨_, _, rfl, h⟩ := h
    haveI : HasCls K "Slot" := ⟨He.cls_ok (c.fact 0 rfl)⟩
    haveI : HasCls K "Even" := ⟨He.cls_ok (c.fact 1 rfl)⟩
    haveI : HasNo K "Even" "noughts" := ⟨He.noat_ok (c.fact 2 rfl)⟩
    haveI : HasNo K "Even" "ones" := ⟨He.noat_ok (c.fact 3 rfl)⟩
    haveI : HasCls K "Quick" := ⟨He.cls_ok (c.fact 4 rfl)⟩
    haveI : HasNo K "Quick" "held" := ⟨He.noat_ok (c.fact 5 rfl)⟩
    haveI : HasCls K "Run" := ⟨He.cls_ok (c.fact 6 rfl)⟩
    haveI : HasNo K "Run" "last" := ⟨He.noat_ok (c.fact 7 rfl)⟩
    haveI : HasNo K "Run" "length" := ⟨He.noat_ok (c.fact 8 rfl)⟩
    haveI : HasCls K "Book" := ⟨He.cls_ok (c.fact 9 rfl)⟩
    haveI : HasNo K "Book" "look" := ⟨He.noat_ok (c.fact 10 rfl)⟩
    haveI : HasNo K "Book" "slots" := ⟨He.noat_ok (c.fact 11 rfl)⟩
    haveI : HasCls K "Mixer" := ⟨He.cls_ok (c.fact 12 rfl)⟩
    haveI : HasNo K "Mixer" "shares" := ⟨He.noat_ok (c.fact 13 rfl)⟩
    haveI : HasCls K "Foreteller" := ⟨He.cls_ok (c.fact 14 rfl)⟩
    haveI : HasNo K "Foreteller" "kinds" := ⟨He.noat_ok (c.fact 15 rfl)⟩
    haveI : HasNo K "Foreteller" "books" := ⟨He.noat_ok (c.fact 16 rfl)⟩
    haveI : HasNo K "Foreteller" "mixer" := ⟨He.noat_ok (c.fact 17 rfl)⟩
    haveI : HasNo K "Foreteller" "ended" := ⟨He.noat_ok (c.fact 18 rfl)⟩
    haveI : HasNo K "Foreteller" "place" := ⟨He.noat_ok (c.fact 19 rfl)⟩
    haveI : HasNo K "Foreteller" "past" := ⟨He.noat_ok (c.fact 20 rfl)⟩
    haveI : HasCls K "Span" := ⟨He.cls_ok (c.fact 21 rfl)⟩
    haveI : HasNo K "Span" "low" := ⟨He.noat_ok (c.fact 22 rfl)⟩
    haveI : HasNo K "Span" "width" := ⟨He.noat_ok (c.fact 23 rfl)⟩
    haveI : HasNo K "Span" "size" := ⟨He.noat_ok (c.fact 24 rfl)⟩
    haveI : HasCls K "Seeker" := ⟨He.cls_ok (c.fact 25 rfl)⟩
    haveI : HasNo K "Seeker" "row" := ⟨He.noat_ok (c.fact 26 rfl)⟩
    haveI : HasNo K "Seeker" "span" := ⟨He.noat_ok (c.fact 27 rfl)⟩
    haveI : HasNo K "Seeker" "number" := ⟨He.noat_ok (c.fact 28 rfl)⟩
    haveI : HasNo K "Seeker" "taken" := ⟨He.noat_ok (c.fact 29 rfl)⟩
    haveI : HasCls K "Store" := ⟨He.cls_ok (c.fact 30 rfl)⟩
    haveI : HasNo K "Store" "kinds" := ⟨He.noat_ok (c.fact 31 rfl)⟩
    haveI : HasNo K "Store" "longest" := ⟨He.noat_ok (c.fact 32 rfl)⟩
    haveI : HasNo K "Store" "pieces" := ⟨He.noat_ok (c.fact 33 rfl)⟩
    haveI : HasTup K "KINDS" [.str "even", .str "quick", .str "run"] := tup_ok (c.ext 0 rfl)
    exact pure_Store_fitting K h)
theorem cb_Foreteller_chance (KX : K.In h) (G : h.Ns mainGlobals mg) (c : SaysX fa fn xf K) : Cb P w K mg base 6 (He.fAd K ("Foreteller", some "chance")) ["self"] [] (sp_Foreteller_chance K) :=
  cb_of (T := t_Foreteller_chance K) (c.def_ 33 rfl) sc_Foreteller_chance (fun vs H Q E h => by
    obtain ⟨_, rfl, _⟩ := h
    rfl) (fun _ _ _ _ _ _ us hl => match us, hl with | [_], _ => rfl)
   (fun cdv A outer s H E hr => by
    have nd := sc_Foreteller_chance.nd
    have ho := out_def (cxD_takes (P := P) (w := w) (K := K) (mg := mg) (base := base) (N := N_Foreteller_chance) (qual := "Foreteller.chance") (st := s_Foreteller_chance) (f := He.fAd K ("Foreteller", some "chance")) (cdv := cdv) (A := A) (outer := outer) (s := s) (H := H) (E := E))
    have tk := cxD_takes (P := P) (w := w) (K := K) (mg := mg) (base := base) (N := N_Foreteller_chance) (qual := "Foreteller.chance") (st := s_Foreteller_chance) (f := He.fAd K ("Foreteller", some "chance")) (cdv := cdv) (A := A) (outer := outer) (s := s) (H := H) (E := E)
    have pz := cxD_passes (P := P) (w := w) (K := K) (mg := mg) (base := base) (N := N_Foreteller_chance) (qual := "Foreteller.chance") (st := s_Foreteller_chance) (f := He.fAd K ("Foreteller", some "chance")) (cdv := cdv) (A := A) (outer := outer) (s := s) (H := H) (E := E)
    exact pss_one (ps_ret (pe_mth (k := 5) (pe_fld (pv 0) rfl) (mo_one (He.cls_ok (c.fact 12 rfl)) (He.meth_ok (c.fact 126 rfl)) (cb_Mixer_mixed KX G c) (by decide)) hr ho (pa_cons (pe_mth0 (k := 5) (pv 0) (mo_one (He.cls_ok (c.fact 14 rfl)) (He.meth_ok (c.fact 127 rfl)) (cb_Foreteller_chances KX G c) (by decide)) hr ho) (pa_nil)))))
   (fun vs H Q E h => by
    obtain ⟨_, rfl, h⟩ := h
    haveI : HasCls K "Slot" := ⟨He.cls_ok (c.fact 0 rfl)⟩
    haveI : HasCls K "Even" := ⟨He.cls_ok (c.fact 1 rfl)⟩
    haveI : HasNo K "Even" "noughts" := ⟨He.noat_ok (c.fact 2 rfl)⟩
    haveI : HasNo K "Even" "ones" := ⟨He.noat_ok (c.fact 3 rfl)⟩
    haveI : HasCls K "Quick" := ⟨He.cls_ok (c.fact 4 rfl)⟩
    haveI : HasNo K "Quick" "held" := ⟨He.noat_ok (c.fact 5 rfl)⟩
    haveI : HasCls K "Run" := ⟨He.cls_ok (c.fact 6 rfl)⟩
    haveI : HasNo K "Run" "last" := ⟨He.noat_ok (c.fact 7 rfl)⟩
    haveI : HasNo K "Run" "length" := ⟨He.noat_ok (c.fact 8 rfl)⟩
    haveI : HasCls K "Book" := ⟨He.cls_ok (c.fact 9 rfl)⟩
    haveI : HasNo K "Book" "look" := ⟨He.noat_ok (c.fact 10 rfl)⟩
    haveI : HasNo K "Book" "slots" := ⟨He.noat_ok (c.fact 11 rfl)⟩
    haveI : HasCls K "Mixer" := ⟨He.cls_ok (c.fact 12 rfl)⟩
    haveI : HasNo K "Mixer" "shares" := ⟨He.noat_ok (c.fact 13 rfl)⟩
    haveI : HasCls K "Foreteller" := ⟨He.cls_ok (c.fact 14 rfl)⟩
    haveI : HasNo K "Foreteller" "kinds" := ⟨He.noat_ok (c.fact 15 rfl)⟩
    haveI : HasNo K "Foreteller" "books" := ⟨He.noat_ok (c.fact 16 rfl)⟩
    haveI : HasNo K "Foreteller" "mixer" := ⟨He.noat_ok (c.fact 17 rfl)⟩
    haveI : HasNo K "Foreteller" "ended" := ⟨He.noat_ok (c.fact 18 rfl)⟩
    haveI : HasNo K "Foreteller" "place" := ⟨He.noat_ok (c.fact 19 rfl)⟩
    haveI : HasNo K "Foreteller" "past" := ⟨He.noat_ok (c.fact 20 rfl)⟩
    haveI : HasCls K "Span" := ⟨He.cls_ok (c.fact 21 rfl)⟩
    haveI : HasNo K "Span" "low" := ⟨He.noat_ok (c.fact 22 rfl)⟩
    haveI : HasNo K "Span" "width" := ⟨He.noat_ok (c.fact 23 rfl)⟩
    haveI : HasNo K "Span" "size" := ⟨He.noat_ok (c.fact 24 rfl)⟩
    haveI : HasCls K "Seeker" := ⟨He.cls_ok (c.fact 25 rfl)⟩
    haveI : HasNo K "Seeker" "row" := ⟨He.noat_ok (c.fact 26 rfl)⟩
    haveI : HasNo K "Seeker" "span" := ⟨He.noat_ok (c.fact 27 rfl)⟩
    haveI : HasNo K "Seeker" "number" := ⟨He.noat_ok (c.fact 28 rfl)⟩
    haveI : HasNo K "Seeker" "taken" := ⟨He.noat_ok (c.fact 29 rfl)⟩
    haveI : HasCls K "Store" := ⟨He.cls_ok (c.fact 30 rfl)⟩
    haveI : HasNo K "Store" "kinds" := ⟨He.noat_ok (c.fact 31 rfl)⟩
    haveI : HasNo K "Store" "longest" := ⟨He.noat_ok (c.fact 32 rfl)⟩
    haveI : HasNo K "Store" "pieces" := ⟨He.noat_ok (c.fact 33 rfl)⟩
    haveI : HasTup K "KINDS" [.str "even", .str "quick", .str "run"] := tup_ok (c.ext 0 rfl)
    exact pure_Foreteller_chance K h)
theorem cb_Foreteller_see (KX : K.In h) (G : h.Ns mainGlobals mg) (c : SaysX fa fn xf K) : Cb P w K mg base 6 (He.fAd K ("Foreteller", some "see")) ["self", "bit"] [] (sp_Foreteller_see K) :=
  cb_of (T := t_Foreteller_see K) (c.def_ 36 rfl) sc_Foreteller_see (fun vs H Q E h => by
    obtain ⟨_, _, rfl, _⟩ := h
    rfl) (fun _ _ _ _ _ _ us hl => match us, hl with | [_, _], _ => rfl)
   (fun cdv A outer s H E hr => by
    have nd := sc_Foreteller_see.nd
    have ho := out_def (cxD_takes (P := P) (w := w) (K := K) (mg := mg) (base := base) (N := N_Foreteller_see) (qual := "Foreteller.see") (st := s_Foreteller_see) (f := He.fAd K ("Foreteller", some "see")) (cdv := cdv) (A := A) (outer := outer) (s := s) (H := H) (E := E))
    have tk := cxD_takes (P := P) (w := w) (K := K) (mg := mg) (base := base) (N := N_Foreteller_see) (qual := "Foreteller.see") (st := s_Foreteller_see) (f := He.fAd K ("Foreteller", some "see")) (cdv := cdv) (A := A) (outer := outer) (s := s) (H := H) (E := E)
    have pz := cxD_passes (P := P) (w := w) (K := K) (mg := mg) (base := base) (N := N_Foreteller_see) (qual := "Foreteller.see") (st := s_Foreteller_see) (f := He.fAd K ("Foreteller", some "see")) (cdv := cdv) (A := A) (outer := outer) (s := s) (H := H) (E := E)
    exact pss_cons (ps_set (i := 2) nd rfl (by first | exact Or.inl rfl | exact Or.inr rfl) (pe_fun (cb_checked_bit KX G c) (hr.mono (by decide)) (He.glo_ok KX G (c.fact 90 rfl)) ho (pa_cons (pv 1) (pa_nil))))
       (pss_cons (ps_set (i := 3) nd rfl (by first | exact Or.inl rfl | exact Or.inr rfl) (pe_mth0 (k := 5) (pv 0) (mo_one (He.cls_ok (c.fact 14 rfl)) (He.meth_ok (c.fact 127 rfl)) (cb_Foreteller_chances KX G c) (by decide)) hr ho))
       (pss_cons (ps_for pz rfl (pi_list (pe_fld (pv 0) rfl)) (pg_name (i := 4) nd rfl (by first | exact Or.inl rfl | exact Or.inr rfl)) (pss_one (ps_expr (pe_mth (k := 5) (pv 4) (mo_one (He.cls_ok (c.fact 9 rfl)) (He.meth_ok (c.fact 128 rfl)) (cb_Book_seen KX G c) (by decide)) hr ho (pa_cons (pe_fld (pv 0) rfl) (pa_cons (pe_fld (pv 0) rfl) (pa_cons (pv 2) (pa_nil))))))))
       (pss_cons (ps_expr (pe_mth (k := 5) (pe_fld (pv 0) rfl) (mo_one (He.cls_ok (c.fact 12 rfl)) (He.meth_ok (c.fact 129 rfl)) (cb_Mixer_learn KX G c) (by decide)) hr ho (pa_cons (pv 3) (pa_cons (pv 2) (pa_nil)))))
       (pss_cons (ps_expr (pe_bm PySem.F.plainAttrs_list PySem.F.slot_list_append PySem.F.type_list_append mt_append (pe_fld (pv 0) rfl) (pa_cons (pv 2) (pa_nil))))
       (pss_one (ps_expr (pe_mth (k := 5) (pv 0) (mo_one (He.cls_ok (c.fact 14 rfl)) (He.meth_ok (c.fact 130 rfl)) (cb_Foreteller_go KX G c) (by decide)) hr ho (pa_cons (pv 2) (pa_nil))))))))))
   (fun vs H Q E h => by
    obtain ⟨_, _, rfl, h⟩ := h
    haveI : HasCls K "Slot" := ⟨He.cls_ok (c.fact 0 rfl)⟩
    haveI : HasCls K "Even" := ⟨He.cls_ok (c.fact 1 rfl)⟩
    haveI : HasNo K "Even" "noughts" := ⟨He.noat_ok (c.fact 2 rfl)⟩
    haveI : HasNo K "Even" "ones" := ⟨He.noat_ok (c.fact 3 rfl)⟩
    haveI : HasCls K "Quick" := ⟨He.cls_ok (c.fact 4 rfl)⟩
    haveI : HasNo K "Quick" "held" := ⟨He.noat_ok (c.fact 5 rfl)⟩
    haveI : HasCls K "Run" := ⟨He.cls_ok (c.fact 6 rfl)⟩
    haveI : HasNo K "Run" "last" := ⟨He.noat_ok (c.fact 7 rfl)⟩
    haveI : HasNo K "Run" "length" := ⟨He.noat_ok (c.fact 8 rfl)⟩
    haveI : HasCls K "Book" := ⟨He.cls_ok (c.fact 9 rfl)⟩
    haveI : HasNo K "Book" "look" := ⟨He.noat_ok (c.fact 10 rfl)⟩
    haveI : HasNo K "Book" "slots" := ⟨He.noat_ok (c.fact 11 rfl)⟩
    haveI : HasCls K "Mixer" := ⟨He.cls_ok (c.fact 12 rfl)⟩
    haveI : HasNo K "Mixer" "shares" := ⟨He.noat_ok (c.fact 13 rfl)⟩
    haveI : HasCls K "Foreteller" := ⟨He.cls_ok (c.fact 14 rfl)⟩
    haveI : HasNo K "Foreteller" "kinds" := ⟨He.noat_ok (c.fact 15 rfl)⟩
    haveI : HasNo K "Foreteller" "books" := ⟨He.noat_ok (c.fact 16 rfl)⟩
    haveI : HasNo K "Foreteller" "mixer" := ⟨He.noat_ok (c.fact 17 rfl)⟩
    haveI : HasNo K "Foreteller" "ended" := ⟨He.noat_ok (c.fact 18 rfl)⟩
    haveI : HasNo K "Foreteller" "place" := ⟨He.noat_ok (c.fact 19 rfl)⟩
    haveI : HasNo K "Foreteller" "past" := ⟨He.noat_ok (c.fact 20 rfl)⟩
    haveI : HasCls K "Span" := ⟨He.cls_ok (c.fact 21 rfl)⟩
    haveI : HasNo K "Span" "low" := ⟨He.noat_ok (c.fact 22 rfl)⟩
    haveI : HasNo K "Span" "width" := ⟨He.noat_ok (c.fact 23 rfl)⟩
    haveI : HasNo K "Span" "size" := ⟨He.noat_ok (c.fact 24 rfl)⟩
    haveI : HasCls K "Seeker" := ⟨He.cls_ok (c.fact 25 rfl)⟩
    haveI : HasNo K "Seeker" "row" := ⟨He.noat_ok (c.fact 26 rfl)⟩
    haveI : HasNo K "Seeker" "span" := ⟨He.noat_ok (c.fact 27 rfl)⟩
    haveI : HasNo K "Seeker" "number" := ⟨He.noat_ok (c.fact 28 rfl)⟩
    haveI : HasNo K "Seeker" "taken" := ⟨He.noat_ok (c.fact 29 rfl)⟩
    haveI : HasCls K "Store" := ⟨He.cls_ok (c.fact 30 rfl)⟩
    haveI : HasNo K "Store" "kinds" := ⟨He.noat_ok (c.fact 31 rfl)⟩
    haveI : HasNo K "Store" "longest" := ⟨He.noat_ok (c.fact 32 rfl)⟩
    haveI : HasNo K "Store" "pieces" := ⟨He.noat_ok (c.fact 33 rfl)⟩
    haveI : HasTup K "KINDS" [.str "even", .str "quick", .str "run"] := tup_ok (c.ext 0 rfl)
    exact pure_Foreteller_see K h)
theorem cb_press_by (KX : K.In h) (G : h.Ns mainGlobals mg) (c : SaysX fa fn xf K) : Cb P w K mg base 7 (He.fAd K ("press_by", none)) ["hand", "text"] [] (sp_press_by K) :=
  cb_of (T := t_press_by K) (c.def_ 49 rfl) sc_press_by (fun vs H Q E h => by
    obtain ⟨_, _, rfl, _⟩ := h
    rfl) (fun _ _ _ _ _ _ us hl => match us, hl with | [_, _], _ => rfl)
   (fun cdv A outer s H E hr => by
    have nd := sc_press_by.nd
    have ho := out_def (cxD_takes (P := P) (w := w) (K := K) (mg := mg) (base := base) (N := N_press_by) (qual := "press_by") (st := s_press_by) (f := He.fAd K ("press_by", none)) (cdv := cdv) (A := A) (outer := outer) (s := s) (H := H) (E := E))
    have tk := cxD_takes (P := P) (w := w) (K := K) (mg := mg) (base := base) (N := N_press_by) (qual := "press_by") (st := s_press_by) (f := He.fAd K ("press_by", none)) (cdv := cdv) (A := A) (outer := outer) (s := s) (H := H) (E := E)
    have pz := cxD_passes (P := P) (w := w) (K := K) (mg := mg) (base := base) (N := N_press_by) (qual := "press_by") (st := s_press_by) (f := He.fAd K ("press_by", none)) (cdv := cdv) (A := A) (outer := outer) (s := s) (H := H) (E := E)
    exact pss_cons (ps_set (i := 2) nd rfl (by first | exact Or.inl rfl | exact Or.inr rfl) (pe_new0 (He.mkr_ok (c.fact 121 rfl)) (cb_Span_init KX G c) (hr.mono (by decide)) (He.glo_ok KX G (c.fact 119 rfl)) ho))
       (pss_cons (ps_for pz rfl (pi_list (pe_fun (cb_decisions_of KX G c) (hr.mono (by decide)) (He.glo_ok KX G (c.fact 131 rfl)) ho (pa_cons (pv 1) (pa_nil)))) (pg_name (i := 3) nd rfl (by first | exact Or.inl rfl | exact Or.inr rfl)) (pss_cons (ps_expr (pe_mth (k := 6) (pv 2) (mo_one (He.cls_ok (c.fact 21 rfl)) (He.meth_ok (c.fact 122 rfl)) (cb_Span_narrow KX G c) (by decide)) hr ho (pa_cons (pe_mth0 (k := 6) (pv 0) (mo_one (He.cls_ok (c.fact 14 rfl)) (He.meth_ok (c.fact 132 rfl)) (cb_Foreteller_chance KX G c) (by decide)) hr ho) (pa_cons (pv 3) (pa_nil)))))
       (pss_one (ps_expr (pe_mth (k := 6) (pv 0) (mo_one (He.cls_ok (c.fact 14 rfl)) (He.meth_ok (c.fact 133 rfl)) (cb_Foreteller_see KX G c) (by decide)) hr ho (pa_cons (pv 3) (pa_nil)))))))
       (pss_one (ps_ret (pe_mth0 (k := 6) (pv 2) (mo_one (He.cls_ok (c.fact 21 rfl)) (He.meth_ok (c.fact 79 rfl)) (cb_Span_told KX G c) (by decide)) hr ho)))))
   (fun vs H Q E h => by
    obtain ⟨_, _, rfl, h⟩ := h
    haveI : HasCls K "Slot" := ⟨He.cls_ok (c.fact 0 rfl)⟩
    haveI : HasCls K "Even" := ⟨He.cls_ok (c.fact 1 rfl)⟩
    haveI : HasNo K "Even" "noughts" := ⟨He.noat_ok (c.fact 2 rfl)⟩
    haveI : HasNo K "Even" "ones" := ⟨He.noat_ok (c.fact 3 rfl)⟩
    haveI : HasCls K "Quick" := ⟨He.cls_ok (c.fact 4 rfl)⟩
    haveI : HasNo K "Quick" "held" := ⟨He.noat_ok (c.fact 5 rfl)⟩
    haveI : HasCls K "Run" := ⟨He.cls_ok (c.fact 6 rfl)⟩
    haveI : HasNo K "Run" "last" := ⟨He.noat_ok (c.fact 7 rfl)⟩
    haveI : HasNo K "Run" "length" := ⟨He.noat_ok (c.fact 8 rfl)⟩
    haveI : HasCls K "Book" := ⟨He.cls_ok (c.fact 9 rfl)⟩
    haveI : HasNo K "Book" "look" := ⟨He.noat_ok (c.fact 10 rfl)⟩
    haveI : HasNo K "Book" "slots" := ⟨He.noat_ok (c.fact 11 rfl)⟩
    haveI : HasCls K "Mixer" := ⟨He.cls_ok (c.fact 12 rfl)⟩
    haveI : HasNo K "Mixer" "shares" := ⟨He.noat_ok (c.fact 13 rfl)⟩
    haveI : HasCls K "Foreteller" := ⟨He.cls_ok (c.fact 14 rfl)⟩
    haveI : HasNo K "Foreteller" "kinds" := ⟨He.noat_ok (c.fact 15 rfl)⟩
    haveI : HasNo K "Foreteller" "books" := ⟨He.noat_ok (c.fact 16 rfl)⟩
    haveI : HasNo K "Foreteller" "mixer" := ⟨He.noat_ok (c.fact 17 rfl)⟩
    haveI : HasNo K "Foreteller" "ended" := ⟨He.noat_ok (c.fact 18 rfl)⟩
    haveI : HasNo K "Foreteller" "place" := ⟨He.noat_ok (c.fact 19 rfl)⟩
    haveI : HasNo K "Foreteller" "past" := ⟨He.noat_ok (c.fact 20 rfl)⟩
    haveI : HasCls K "Span" := ⟨He.cls_ok (c.fact 21 rfl)⟩
    haveI : HasNo K "Span" "low" := ⟨He.noat_ok (c.fact 22 rfl)⟩
    haveI : HasNo K "Span" "width" := ⟨He.noat_ok (c.fact 23 rfl)⟩
    haveI : HasNo K "Span" "size" := ⟨He.noat_ok (c.fact 24 rfl)⟩
    haveI : HasCls K "Seeker" := ⟨He.cls_ok (c.fact 25 rfl)⟩
    haveI : HasNo K "Seeker" "row" := ⟨He.noat_ok (c.fact 26 rfl)⟩
    haveI : HasNo K "Seeker" "span" := ⟨He.noat_ok (c.fact 27 rfl)⟩
    haveI : HasNo K "Seeker" "number" := ⟨He.noat_ok (c.fact 28 rfl)⟩
    haveI : HasNo K "Seeker" "taken" := ⟨He.noat_ok (c.fact 29 rfl)⟩
    haveI : HasCls K "Store" := ⟨He.cls_ok (c.fact 30 rfl)⟩
    haveI : HasNo K "Store" "kinds" := ⟨He.noat_ok (c.fact 31 rfl)⟩
    haveI : HasNo K "Store" "longest" := ⟨He.noat_ok (c.fact 32 rfl)⟩
    haveI : HasNo K "Store" "pieces" := ⟨He.noat_ok (c.fact 33 rfl)⟩
    haveI : HasTup K "KINDS" [.str "even", .str "quick", .str "run"] := tup_ok (c.ext 0 rfl)
    exact pure_press_by K h)
theorem cb_read_by (KX : K.In h) (G : h.Ns mainGlobals mg) (c : SaysX fa fn xf K) : Cb P w K mg base 7 (He.fAd K ("read_by", none)) ["hand", "data", "most"] [] (sp_read_by K) :=
  cb_of (T := t_read_by K) (c.def_ 50 rfl) sc_read_by (fun vs H Q E h => by
    obtain ⟨_, _, _, rfl, _⟩ := h
    rfl) (fun _ _ _ _ _ _ us hl => match us, hl with | [_, _, _], _ => rfl)
   (fun cdv A outer s H E hr => by
    have nd := sc_read_by.nd
    have ho := out_def (cxD_takes (P := P) (w := w) (K := K) (mg := mg) (base := base) (N := N_read_by) (qual := "read_by") (st := s_read_by) (f := He.fAd K ("read_by", none)) (cdv := cdv) (A := A) (outer := outer) (s := s) (H := H) (E := E))
    have tk := cxD_takes (P := P) (w := w) (K := K) (mg := mg) (base := base) (N := N_read_by) (qual := "read_by") (st := s_read_by) (f := He.fAd K ("read_by", none)) (cdv := cdv) (A := A) (outer := outer) (s := s) (H := H) (E := E)
    have pz := cxD_passes (P := P) (w := w) (K := K) (mg := mg) (base := base) (N := N_read_by) (qual := "read_by") (st := s_read_by) (f := He.fAd K ("read_by", none)) (cdv := cdv) (A := A) (outer := outer) (s := s) (H := H) (E := E)
    exact pss_cons (ps_set (i := 3) nd rfl (by first | exact Or.inl rfl | exact Or.inr rfl) (pe_new (He.mkr_ok (c.fact 139 rfl)) (cb_Seeker_init KX G c) (hr.mono (by decide)) (He.glo_ok KX G (c.fact 134 rfl)) ho (pa_cons (pv 1) (pa_nil))))
       (pss_cons (ps_set (i := 4) nd rfl (by first | exact Or.inl rfl | exact Or.inr rfl) (pe_non))
       (pss_cons (ps_while pz (pt_cmpR o_isno (pv 4) (pe_non) (nomark _)) (pss_cons (ps_set (i := 5) nd rfl (by first | exact Or.inl rfl | exact Or.inr rfl) (pe_cmpR (o_same hr.units) (pe_mth0 (k := 6) (pv 0) (mo_one (He.cls_ok (c.fact 14 rfl)) (He.meth_ok (c.fact 135 rfl)) (cb_Foreteller_node KX G c) (by decide)) hr ho) (pe_int) (nomark _)))
       (pss_cons (ps_set (i := 6) nd rfl (by first | exact Or.inl rfl | exact Or.inr rfl) (pe_mth (k := 6) (pv 3) (mo_one (He.cls_ok (c.fact 25 rfl)) (He.meth_ok (c.fact 136 rfl)) (cb_Seeker_bit KX G c) (by decide)) hr ho (pa_cons (pe_mth0 (k := 6) (pv 0) (mo_one (He.cls_ok (c.fact 14 rfl)) (He.meth_ok (c.fact 132 rfl)) (cb_Foreteller_chance KX G c) (by decide)) hr ho) (pa_nil))))
       (pss_cons (ps_if (PW.pt (pw_and (pt_tru (pv 5)) (pw_and1 (pt_cmpR (o_same hr.units) (pv 6) (pe_int) (nomark _))))) (pss_one (ps_set (i := 4) nd rfl (by first | exact Or.inl rfl | exact Or.inr rfl) (pe_mth0 (k := 6) (pv 0) (mo_one (He.cls_ok (c.fact 14 rfl)) (He.meth_ok (c.fact 137 rfl)) (cb_Foreteller_signs KX G c) (by decide)) hr ho))) (pss_one (ps_if (PW.pt (pw_and (pt_tru (pv 5)) (pw_and1 (pt_cmpR (o_same hr.units) (pe_callB c_len (by rfl) (He.free_ok KX G (c.fact 38 rfl)) (by decide +kernel) (pa_cons (pe_mth0 (k := 6) (pv 0) (mo_one (He.cls_ok (c.fact 14 rfl)) (He.meth_ok (c.fact 137 rfl)) (cb_Foreteller_signs KX G c) (by decide)) hr ho) (pa_nil))) (pv 2) (nomark _))))) (pss_one (ps_rz (exn_ok KX G (c.fact 140 rfl) (c.fact 141 rfl)) rfl tk)) (pss_nil))))
       (pss_one (ps_expr (pe_mth (k := 6) (pv 0) (mo_one (He.cls_ok (c.fact 14 rfl)) (He.meth_ok (c.fact 133 rfl)) (cb_Foreteller_see KX G c) (by decide)) hr ho (pa_cons (pv 6) (pa_nil)))))))))
       (pss_cons (ps_set (i := 7) nd rfl (by first | exact Or.inl rfl | exact Or.inr rfl) (pe_mth0 (k := 6) (pv 3) (mo_one (He.cls_ok (c.fact 25 rfl)) (He.meth_ok (c.fact 138 rfl)) (cb_Seeker_told KX G c) (by decide)) hr ho))
       (pss_cons (ps_if (pt_cmpR (o_diff hr.units) (pe_slice sl_list (pv 1) (po_none) (po_some (pe_callB c_len (by rfl) (He.free_ok KX G (c.fact 38 rfl)) (by decide +kernel) (pa_cons (pv 7) (pa_nil))))) (pv 7) (nomark _)) (pss_one (ps_rz (exn_ok KX G (c.fact 140 rfl) (c.fact 141 rfl)) rfl tk)) (pss_nil))
       (pss_one (ps_ret (pe_tup (pa_cons (pv 4) (pa_cons (pv 7) (pa_nil)))))))))))
   (fun vs H Q E h => by
    obtain ⟨_, _, _, rfl, h⟩ := h
    haveI : HasCls K "Slot" := ⟨He.cls_ok (c.fact 0 rfl)⟩
    haveI : HasCls K "Even" := ⟨He.cls_ok (c.fact 1 rfl)⟩
    haveI : HasNo K "Even" "noughts" := ⟨He.noat_ok (c.fact 2 rfl)⟩
    haveI : HasNo K "Even" "ones" := ⟨He.noat_ok (c.fact 3 rfl)⟩
    haveI : HasCls K "Quick" := ⟨He.cls_ok (c.fact 4 rfl)⟩
    haveI : HasNo K "Quick" "held" := ⟨He.noat_ok (c.fact 5 rfl)⟩
    haveI : HasCls K "Run" := ⟨He.cls_ok (c.fact 6 rfl)⟩
    haveI : HasNo K "Run" "last" := ⟨He.noat_ok (c.fact 7 rfl)⟩
    haveI : HasNo K "Run" "length" := ⟨He.noat_ok (c.fact 8 rfl)⟩
    haveI : HasCls K "Book" := ⟨He.cls_ok (c.fact 9 rfl)⟩
    haveI : HasNo K "Book" "look" := ⟨He.noat_ok (c.fact 10 rfl)⟩
    haveI : HasNo K "Book" "slots" := ⟨He.noat_ok (c.fact 11 rfl)⟩
    haveI : HasCls K "Mixer" := ⟨He.cls_ok (c.fact 12 rfl)⟩
    haveI : HasNo K "Mixer" "shares" := ⟨He.noat_ok (c.fact 13 rfl)⟩
    haveI : HasCls K "Foreteller" := ⟨He.cls_ok (c.fact 14 rfl)⟩
    haveI : HasNo K "Foreteller" "kinds" := ⟨He.noat_ok (c.fact 15 rfl)⟩
    haveI : HasNo K "Foreteller" "books" := ⟨He.noat_ok (c.fact 16 rfl)⟩
    haveI : HasNo K "Foreteller" "mixer" := ⟨He.noat_ok (c.fact 17 rfl)⟩
    haveI : HasNo K "Foreteller" "ended" := ⟨He.noat_ok (c.fact 18 rfl)⟩
    haveI : HasNo K "Foreteller" "place" := ⟨He.noat_ok (c.fact 19 rfl)⟩
    haveI : HasNo K "Foreteller" "past" := ⟨He.noat_ok (c.fact 20 rfl)⟩
    haveI : HasCls K "Span" := ⟨He.cls_ok (c.fact 21 rfl)⟩
    haveI : HasNo K "Span" "low" := ⟨He.noat_ok (c.fact 22 rfl)⟩
    haveI : HasNo K "Span" "width" := ⟨He.noat_ok (c.fact 23 rfl)⟩
    haveI : HasNo K "Span" "size" := ⟨He.noat_ok (c.fact 24 rfl)⟩
    haveI : HasCls K "Seeker" := ⟨He.cls_ok (c.fact 25 rfl)⟩
    haveI : HasNo K "Seeker" "row" := ⟨He.noat_ok (c.fact 26 rfl)⟩
    haveI : HasNo K "Seeker" "span" := ⟨He.noat_ok (c.fact 27 rfl)⟩
    haveI : HasNo K "Seeker" "number" := ⟨He.noat_ok (c.fact 28 rfl)⟩
    haveI : HasNo K "Seeker" "taken" := ⟨He.noat_ok (c.fact 29 rfl)⟩
    haveI : HasCls K "Store" := ⟨He.cls_ok (c.fact 30 rfl)⟩
    haveI : HasNo K "Store" "kinds" := ⟨He.noat_ok (c.fact 31 rfl)⟩
    haveI : HasNo K "Store" "longest" := ⟨He.noat_ok (c.fact 32 rfl)⟩
    haveI : HasNo K "Store" "pieces" := ⟨He.noat_ok (c.fact 33 rfl)⟩
    haveI : HasTup K "KINDS" [.str "even", .str "quick", .str "run"] := tup_ok (c.ext 0 rfl)
    exact pure_read_by K h)
theorem cb_Store_read_chain (KX : K.In h) (G : h.Ns mainGlobals mg) (c : SaysX fa fn xf K) : Cb P w K mg base 8 (He.fAd K ("Store", some "read_chain")) ["self", "base"] [] (sp_Store_read_chain K) :=
  cb_of (T := t_Store_read_chain K) (c.def_ 55 rfl) sc_Store_read_chain (fun vs H Q E h => by
    obtain ⟨_, _, rfl, _⟩ := h
    rfl) (fun _ _ _ _ _ _ us hl => match us, hl with | [_, _], _ => rfl)
   (fun cdv A outer s H E hr => by
    have nd := sc_Store_read_chain.nd
    have ho := out_def (cxD_takes (P := P) (w := w) (K := K) (mg := mg) (base := base) (N := N_Store_read_chain) (qual := "Store.read_chain") (st := s_Store_read_chain) (f := He.fAd K ("Store", some "read_chain")) (cdv := cdv) (A := A) (outer := outer) (s := s) (H := H) (E := E))
    have tk := cxD_takes (P := P) (w := w) (K := K) (mg := mg) (base := base) (N := N_Store_read_chain) (qual := "Store.read_chain") (st := s_Store_read_chain) (f := He.fAd K ("Store", some "read_chain")) (cdv := cdv) (A := A) (outer := outer) (s := s) (H := H) (E := E)
    have pz := cxD_passes (P := P) (w := w) (K := K) (mg := mg) (base := base) (N := N_Store_read_chain) (qual := "Store.read_chain") (st := s_Store_read_chain) (f := He.fAd K ("Store", some "read_chain")) (cdv := cdv) (A := A) (outer := outer) (s := s) (H := H) (E := E)
    exact pss_cons (ps_set (i := 2) nd rfl (by first | exact Or.inl rfl | exact Or.inr rfl) (pe_new (He.mkr_ok (c.fact 145 rfl)) (cb_Foreteller_init KX G c) (hr.mono (by decide)) (He.glo_ok KX G (c.fact 142 rfl)) ho (pa_cons (pe_fld (pv 0) rfl) (pa_nil))))
       (pss_cons (ps_set (i := 3) nd rfl (by first | exact Or.inl rfl | exact Or.inr rfl) (pe_lst (pa_nil)))
       (pss_cons (ps_for pz rfl (pi_list (pe_mth (k := 7) (pv 0) (mo_one (He.cls_ok (c.fact 30 rfl)) (He.meth_ok (c.fact 144 rfl)) (cb_Store_chain KX G c) (by decide)) hr ho (pa_cons (pv 1) (pa_nil)))) (pg_name (i := 4) nd rfl (by first | exact Or.inl rfl | exact Or.inr rfl)) (pss_cons (ps_asg (pe_fun (cb_read_by KX G c) (hr.mono (by decide)) (He.glo_ok KX G (c.fact 143 rfl)) ho (pa_cons (pv 2) (pa_cons (pe_ix ix_seq (pe_dget (hu_of hr) (pe_fld (pv 0) rfl) (pv 4) (fun _ _ => rfl)) (pe_int) (fun _ _ => rfl)) (pa_cons (pe_fld (pv 0) rfl) (pa_nil))))) (pg_tup rfl (pgs_cons (pg_name (i := 5) nd rfl (by first | exact Or.inl rfl | exact Or.inr rfl)) (pgs_cons (pg_name (i := 6) nd rfl (by first | exact Or.inl rfl | exact Or.inr rfl)) (pgs_nil)))))
       (pss_one (ps_expr (pe_bm PySem.F.plainAttrs_list PySem.F.slot_list_append PySem.F.type_list_append mt_append (pv 3) (pa_cons (pv 5) (pa_nil)))))))
       (pss_one (ps_ret (pe_tup (pa_cons (pv 2) (pa_cons (pv 3) (pa_nil)))))))))
   (fun vs H Q E h => by
    obtain ⟨_, _, rfl, h⟩ := h
    haveI : HasCls K "Slot" := ⟨He.cls_ok (c.fact 0 rfl)⟩
    haveI : HasCls K "Even" := ⟨He.cls_ok (c.fact 1 rfl)⟩
    haveI : HasNo K "Even" "noughts" := ⟨He.noat_ok (c.fact 2 rfl)⟩
    haveI : HasNo K "Even" "ones" := ⟨He.noat_ok (c.fact 3 rfl)⟩
    haveI : HasCls K "Quick" := ⟨He.cls_ok (c.fact 4 rfl)⟩
    haveI : HasNo K "Quick" "held" := ⟨He.noat_ok (c.fact 5 rfl)⟩
    haveI : HasCls K "Run" := ⟨He.cls_ok (c.fact 6 rfl)⟩
    haveI : HasNo K "Run" "last" := ⟨He.noat_ok (c.fact 7 rfl)⟩
    haveI : HasNo K "Run" "length" := ⟨He.noat_ok (c.fact 8 rfl)⟩
    haveI : HasCls K "Book" := ⟨He.cls_ok (c.fact 9 rfl)⟩
    haveI : HasNo K "Book" "look" := ⟨He.noat_ok (c.fact 10 rfl)⟩
    haveI : HasNo K "Book" "slots" := ⟨He.noat_ok (c.fact 11 rfl)⟩
    haveI : HasCls K "Mixer" := ⟨He.cls_ok (c.fact 12 rfl)⟩
    haveI : HasNo K "Mixer" "shares" := ⟨He.noat_ok (c.fact 13 rfl)⟩
    haveI : HasCls K "Foreteller" := ⟨He.cls_ok (c.fact 14 rfl)⟩
    haveI : HasNo K "Foreteller" "kinds" := ⟨He.noat_ok (c.fact 15 rfl)⟩
    haveI : HasNo K "Foreteller" "books" := ⟨He.noat_ok (c.fact 16 rfl)⟩
    haveI : HasNo K "Foreteller" "mixer" := ⟨He.noat_ok (c.fact 17 rfl)⟩
    haveI : HasNo K "Foreteller" "ended" := ⟨He.noat_ok (c.fact 18 rfl)⟩
    haveI : HasNo K "Foreteller" "place" := ⟨He.noat_ok (c.fact 19 rfl)⟩
    haveI : HasNo K "Foreteller" "past" := ⟨He.noat_ok (c.fact 20 rfl)⟩
    haveI : HasCls K "Span" := ⟨He.cls_ok (c.fact 21 rfl)⟩
    haveI : HasNo K "Span" "low" := ⟨He.noat_ok (c.fact 22 rfl)⟩
    haveI : HasNo K "Span" "width" := ⟨He.noat_ok (c.fact 23 rfl)⟩
    haveI : HasNo K "Span" "size" := ⟨He.noat_ok (c.fact 24 rfl)⟩
    haveI : HasCls K "Seeker" := ⟨He.cls_ok (c.fact 25 rfl)⟩
    haveI : HasNo K "Seeker" "row" := ⟨He.noat_ok (c.fact 26 rfl)⟩
    haveI : HasNo K "Seeker" "span" := ⟨He.noat_ok (c.fact 27 rfl)⟩
    haveI : HasNo K "Seeker" "number" := ⟨He.noat_ok (c.fact 28 rfl)⟩
    haveI : HasNo K "Seeker" "taken" := ⟨He.noat_ok (c.fact 29 rfl)⟩
    haveI : HasCls K "Store" := ⟨He.cls_ok (c.fact 30 rfl)⟩
    haveI : HasNo K "Store" "kinds" := ⟨He.noat_ok (c.fact 31 rfl)⟩
    haveI : HasNo K "Store" "longest" := ⟨He.noat_ok (c.fact 32 rfl)⟩
    haveI : HasNo K "Store" "pieces" := ⟨He.noat_ok (c.fact 33 rfl)⟩
    haveI : HasTup K "KINDS" [.str "even", .str "quick", .str "run"] := tup_ok (c.ext 0 rfl)
    exact pure_Store_read_chain K h)
theorem cd_Store_put (KX : K.In h) (G : h.Ns mainGlobals mg) (c : SaysX fa fn xf K) : ∃ fd, FunD K "put" "Store.put" (defArgs s_Store_put) (defBody s_Store_put) (defScope s_Store_put) [.non] [] (He.fAd K ("Store", some "put")) fd ∧ FnOk P w K mg base (L2.CX P w) 9 (He.fAd K ("Store", some "put")) fd ["self", "name", "text", "base"] (sp_Store_put K) := by
  obtain ⟨fd, F⟩ := c.def_ 57 rfl
  exact ⟨fd, F, ok_of (T := t_Store_put K) F sc_Store_put (fun vs H Q E h => by
    obtain ⟨_, _, _, _, rfl, _⟩ := h
    rfl)
   (fun cdv A outer s H E hr => by
    have nd := sc_Store_put.nd
    have ho := out_def (cxD_takes (P := P) (w := w) (K := K) (mg := mg) (base := base) (N := N_Store_put) (qual := "Store.put") (st := s_Store_put) (f := He.fAd K ("Store", some "put")) (cdv := cdv) (A := A) (outer := outer) (s := s) (H := H) (E := E))
    have tk := cxD_takes (P := P) (w := w) (K := K) (mg := mg) (base := base) (N := N_Store_put) (qual := "Store.put") (st := s_Store_put) (f := He.fAd K ("Store", some "put")) (cdv := cdv) (A := A) (outer := outer) (s := s) (H := H) (E := E)
    have pz := cxD_passes (P := P) (w := w) (K := K) (mg := mg) (base := base) (N := N_Store_put) (qual := "Store.put") (st := s_Store_put) (f := He.fAd K ("Store", some "put")) (cdv := cdv) (A := A) (outer := outer) (s := s) (H := H) (E := E)
    exact pss_cons (ps_expr (pe_fun (cb_checked_name KX G c) (hr.mono (by decide)) (He.glo_ok KX G (c.fact 60 rfl)) ho (pa_cons (pv 1) (pa_nil))))
       (pss_cons (ps_expr (pe_fun (cb_checked_text KX G c) (hr.mono (by decide)) (He.glo_ok KX G (c.fact 116 rfl)) ho (pa_cons (pv 2) (pa_nil))))
       (pss_cons (ps_if (pt_cmpR o_notno (pv 3) (pe_non) (nomark _)) (pss_one (ps_expr (pe_fun (cb_checked_name KX G c) (hr.mono (by decide)) (He.glo_ok KX G (c.fact 60 rfl)) ho (pa_cons (pv 3) (pa_nil))))) (pss_nil))
       (pss_cons (ps_set (i := 4) nd rfl (by first | exact Or.inl rfl | exact Or.inr rfl) (pe_mth (k := 8) (pv 0) (mo_one (He.cls_ok (c.fact 30 rfl)) (He.meth_ok (c.fact 148 rfl)) (cb_Store_fitting KX G c) (by decide)) hr ho (pa_cons (pv 2) (pa_nil))))
       (pss_cons (ps_if (pt_cmp (pc_din (hu_of hr) (pv 1) (pe_fld (pv 0) rfl))) (pss_one (ps_rz (exn_ok KX G (c.fact 150 rfl) (c.fact 151 rfl)) rfl tk)) (pss_nil))
       (pss_cons (ps_if (PW.pt (pw_and (pt_cmpR o_notno (pv 3) (pe_non) (nomark _)) (pw_and1 (pt_cmp (pc_dnotin (hu_of hr) (pv 3) (pe_fld (pv 0) rfl)))))) (pss_one (ps_rz (exn_ok KX G (c.fact 61 rfl) (c.fact 62 rfl)) rfl tk)) (pss_nil))
       (pss_cons (ps_if (pt_cmpR (o_same hr.units) (pe_callB c_lenD (by rfl) (He.free_ok KX G (c.fact 38 rfl)) (by decide +kernel) (pa_cons (pe_fld (pv 0) rfl) (pa_nil))) (pe_gint (He.int_ok KX G (c.fact 147 rfl))) (nomark _)) (pss_one (ps_rz (exn_ok KX G (c.fact 152 rfl) (c.fact 153 rfl)) rfl tk)) (pss_nil))
       (pss_one (ps_dput (hu_of hr) (pe_fld (pv 0) rfl) (pv 1) (pe_tup (pa_cons (pv 3) (pa_cons (pe_fun (cb_press_by KX G c) (hr.mono (by decide)) (He.glo_ok KX G (c.fact 146 rfl)) ho (pa_cons (pe_ix ix_seq (pe_mth (k := 8) (pv 0) (mo_one (He.cls_ok (c.fact 30 rfl)) (He.meth_ok (c.fact 149 rfl)) (cb_Store_read_chain KX G c) (by decide)) hr ho (pa_cons (pv 3) (pa_nil))) (pe_int) (fun _ _ => rfl)) (pa_cons (pv 4) (pa_nil)))) (pa_nil)))) rfl)))))))))
   (fun vs H Q E h => by
    obtain ⟨_, _, _, _, rfl, h⟩ := h
    haveI : HasCls K "Slot" := ⟨He.cls_ok (c.fact 0 rfl)⟩
    haveI : HasCls K "Even" := ⟨He.cls_ok (c.fact 1 rfl)⟩
    haveI : HasNo K "Even" "noughts" := ⟨He.noat_ok (c.fact 2 rfl)⟩
    haveI : HasNo K "Even" "ones" := ⟨He.noat_ok (c.fact 3 rfl)⟩
    haveI : HasCls K "Quick" := ⟨He.cls_ok (c.fact 4 rfl)⟩
    haveI : HasNo K "Quick" "held" := ⟨He.noat_ok (c.fact 5 rfl)⟩
    haveI : HasCls K "Run" := ⟨He.cls_ok (c.fact 6 rfl)⟩
    haveI : HasNo K "Run" "last" := ⟨He.noat_ok (c.fact 7 rfl)⟩
    haveI : HasNo K "Run" "length" := ⟨He.noat_ok (c.fact 8 rfl)⟩
    haveI : HasCls K "Book" := ⟨He.cls_ok (c.fact 9 rfl)⟩
    haveI : HasNo K "Book" "look" := ⟨He.noat_ok (c.fact 10 rfl)⟩
    haveI : HasNo K "Book" "slots" := ⟨He.noat_ok (c.fact 11 rfl)⟩
    haveI : HasCls K "Mixer" := ⟨He.cls_ok (c.fact 12 rfl)⟩
    haveI : HasNo K "Mixer" "shares" := ⟨He.noat_ok (c.fact 13 rfl)⟩
    haveI : HasCls K "Foreteller" := ⟨He.cls_ok (c.fact 14 rfl)⟩
    haveI : HasNo K "Foreteller" "kinds" := ⟨He.noat_ok (c.fact 15 rfl)⟩
    haveI : HasNo K "Foreteller" "books" := ⟨He.noat_ok (c.fact 16 rfl)⟩
    haveI : HasNo K "Foreteller" "mixer" := ⟨He.noat_ok (c.fact 17 rfl)⟩
    haveI : HasNo K "Foreteller" "ended" := ⟨He.noat_ok (c.fact 18 rfl)⟩
    haveI : HasNo K "Foreteller" "place" := ⟨He.noat_ok (c.fact 19 rfl)⟩
    haveI : HasNo K "Foreteller" "past" := ⟨He.noat_ok (c.fact 20 rfl)⟩
    haveI : HasCls K "Span" := ⟨He.cls_ok (c.fact 21 rfl)⟩
    haveI : HasNo K "Span" "low" := ⟨He.noat_ok (c.fact 22 rfl)⟩
    haveI : HasNo K "Span" "width" := ⟨He.noat_ok (c.fact 23 rfl)⟩
    haveI : HasNo K "Span" "size" := ⟨He.noat_ok (c.fact 24 rfl)⟩
    haveI : HasCls K "Seeker" := ⟨He.cls_ok (c.fact 25 rfl)⟩
    haveI : HasNo K "Seeker" "row" := ⟨He.noat_ok (c.fact 26 rfl)⟩
    haveI : HasNo K "Seeker" "span" := ⟨He.noat_ok (c.fact 27 rfl)⟩
    haveI : HasNo K "Seeker" "number" := ⟨He.noat_ok (c.fact 28 rfl)⟩
    haveI : HasNo K "Seeker" "taken" := ⟨He.noat_ok (c.fact 29 rfl)⟩
    haveI : HasCls K "Store" := ⟨He.cls_ok (c.fact 30 rfl)⟩
    haveI : HasNo K "Store" "kinds" := ⟨He.noat_ok (c.fact 31 rfl)⟩
    haveI : HasNo K "Store" "longest" := ⟨He.noat_ok (c.fact 32 rfl)⟩
    haveI : HasNo K "Store" "pieces" := ⟨He.noat_ok (c.fact 33 rfl)⟩
    haveI : HasTup K "KINDS" [.str "even", .str "quick", .str "run"] := tup_ok (c.ext 0 rfl)
    exact pure_Store_put K h)⟩
theorem cb_Store_put (KX : K.In h) (G : h.Ns mainGlobals mg) (c : SaysX fa fn xf K) : Cb P w K mg base 9 (He.fAd K ("Store", some "put")) ["self", "name", "text", "base"] [] (sp_Store_put K) := by
  obtain ⟨fd, F, O⟩ := cd_Store_put (P := P) (w := w) (base := base) KX G c
  obtain ⟨ds, hv, hb⟩ := F.binds1 (ps := ["self", "name", "text", "base"]) 4 1 (by simp) rfl (fun _ _ _ _ _ _ _ us its h1 h2 => match us, its, h1, h2 with | [_, _, _, _], [_], _, _ => ⟨_, rfl, rfl⟩)
  exact ⟨⟨fd, ds, O, hb, hv⟩, F.kp⟩
theorem cb_Store_text_of (KX : K.In h) (G : h.Ns mainGlobals mg) (c : SaysX fa fn xf K) : Cb P w K mg base 9 (He.fAd K ("Store", some "text_of")) ["self", "name"] [] (sp_Store_text_of K) :=
  cb_of (T := t_Store_text_of K) (c.def_ 58 rfl) sc_Store_text_of (fun vs H Q E h => by
    obtain ⟨_, _, rfl, _⟩ := h
    rfl) (fun _ _ _ _ _ _ us hl => match us, hl with | [_, _], _ => rfl)
   (fun cdv A outer s H E hr => by
    have nd := sc_Store_text_of.nd
    have ho := out_def (cxD_takes (P := P) (w := w) (K := K) (mg := mg) (base := base) (N := N_Store_text_of) (qual := "Store.text_of") (st := s_Store_text_of) (f := He.fAd K ("Store", some "text_of")) (cdv := cdv) (A := A) (outer := outer) (s := s) (H := H) (E := E))
    have tk := cxD_takes (P := P) (w := w) (K := K) (mg := mg) (base := base) (N := N_Store_text_of) (qual := "Store.text_of") (st := s_Store_text_of) (f := He.fAd K ("Store", some "text_of")) (cdv := cdv) (A := A) (outer := outer) (s := s) (H := H) (E := E)
    have pz := cxD_passes (P := P) (w := w) (K := K) (mg := mg) (base := base) (N := N_Store_text_of) (qual := "Store.text_of") (st := s_Store_text_of) (f := He.fAd K ("Store", some "text_of")) (cdv := cdv) (A := A) (outer := outer) (s := s) (H := H) (E := E)
    exact pss_cons (ps_expr (pe_mth (k := 8) (pv 0) (mo_one (He.cls_ok (c.fact 30 rfl)) (He.meth_ok (c.fact 80 rfl)) (cb_Store_sought_piece KX G c) (by decide)) hr ho (pa_cons (pv 1) (pa_nil))))
       (pss_one (ps_ret (pe_ix ix_seq (pe_ix ix_seq (pe_mth (k := 8) (pv 0) (mo_one (He.cls_ok (c.fact 30 rfl)) (He.meth_ok (c.fact 149 rfl)) (cb_Store_read_chain KX G c) (by decide)) hr ho (pa_cons (pv 1) (pa_nil))) (pe_int) (fun _ _ => rfl)) (pe_un o_neg (pe_int)) (fun _ _ => rfl)))))
   (fun vs H Q E h => by
    obtain ⟨_, _, rfl, h⟩ := h
    haveI : HasCls K "Slot" := ⟨He.cls_ok (c.fact 0 rfl)⟩
    haveI : HasCls K "Even" := ⟨He.cls_ok (c.fact 1 rfl)⟩
    haveI : HasNo K "Even" "noughts" := ⟨He.noat_ok (c.fact 2 rfl)⟩
    haveI : HasNo K "Even" "ones" := ⟨He.noat_ok (c.fact 3 rfl)⟩
    haveI : HasCls K "Quick" := ⟨He.cls_ok (c.fact 4 rfl)⟩
    haveI : HasNo K "Quick" "held" := ⟨He.noat_ok (c.fact 5 rfl)⟩
    haveI : HasCls K "Run" := ⟨He.cls_ok (c.fact 6 rfl)⟩
    haveI : HasNo K "Run" "last" := ⟨He.noat_ok (c.fact 7 rfl)⟩
    haveI : HasNo K "Run" "length" := ⟨He.noat_ok (c.fact 8 rfl)⟩
    haveI : HasCls K "Book" := ⟨He.cls_ok (c.fact 9 rfl)⟩
    haveI : HasNo K "Book" "look" := ⟨He.noat_ok (c.fact 10 rfl)⟩
    haveI : HasNo K "Book" "slots" := ⟨He.noat_ok (c.fact 11 rfl)⟩
    haveI : HasCls K "Mixer" := ⟨He.cls_ok (c.fact 12 rfl)⟩
    haveI : HasNo K "Mixer" "shares" := ⟨He.noat_ok (c.fact 13 rfl)⟩
    haveI : HasCls K "Foreteller" := ⟨He.cls_ok (c.fact 14 rfl)⟩
    haveI : HasNo K "Foreteller" "kinds" := ⟨He.noat_ok (c.fact 15 rfl)⟩
    haveI : HasNo K "Foreteller" "books" := ⟨He.noat_ok (c.fact 16 rfl)⟩
    haveI : HasNo K "Foreteller" "mixer" := ⟨He.noat_ok (c.fact 17 rfl)⟩
    haveI : HasNo K "Foreteller" "ended" := ⟨He.noat_ok (c.fact 18 rfl)⟩
    haveI : HasNo K "Foreteller" "place" := ⟨He.noat_ok (c.fact 19 rfl)⟩
    haveI : HasNo K "Foreteller" "past" := ⟨He.noat_ok (c.fact 20 rfl)⟩
    haveI : HasCls K "Span" := ⟨He.cls_ok (c.fact 21 rfl)⟩
    haveI : HasNo K "Span" "low" := ⟨He.noat_ok (c.fact 22 rfl)⟩
    haveI : HasNo K "Span" "width" := ⟨He.noat_ok (c.fact 23 rfl)⟩
    haveI : HasNo K "Span" "size" := ⟨He.noat_ok (c.fact 24 rfl)⟩
    haveI : HasCls K "Seeker" := ⟨He.cls_ok (c.fact 25 rfl)⟩
    haveI : HasNo K "Seeker" "row" := ⟨He.noat_ok (c.fact 26 rfl)⟩
    haveI : HasNo K "Seeker" "span" := ⟨He.noat_ok (c.fact 27 rfl)⟩
    haveI : HasNo K "Seeker" "number" := ⟨He.noat_ok (c.fact 28 rfl)⟩
    haveI : HasNo K "Seeker" "taken" := ⟨He.noat_ok (c.fact 29 rfl)⟩
    haveI : HasCls K "Store" := ⟨He.cls_ok (c.fact 30 rfl)⟩
    haveI : HasNo K "Store" "kinds" := ⟨He.noat_ok (c.fact 31 rfl)⟩
    haveI : HasNo K "Store" "longest" := ⟨He.noat_ok (c.fact 32 rfl)⟩
    haveI : HasNo K "Store" "pieces" := ⟨He.noat_ok (c.fact 33 rfl)⟩
    haveI : HasTup K "KINDS" [.str "even", .str "quick", .str "run"] := tup_ok (c.ext 0 rfl)
    exact pure_Store_text_of K h)
theorem cb_Store_learned_of (KX : K.In h) (G : h.Ns mainGlobals mg) (c : SaysX fa fn xf K) : Cb P w K mg base 9 (He.fAd K ("Store", some "learned_of")) ["self", "name"] [] (sp_Store_learned_of K) :=
  cb_of (T := t_Store_learned_of K) (c.def_ 60 rfl) sc_Store_learned_of (fun vs H Q E h => by
    obtain ⟨_, _, rfl, _⟩ := h
    rfl) (fun _ _ _ _ _ _ us hl => match us, hl with | [_, _], _ => rfl)
   (fun cdv A outer s H E hr => by
    have nd := sc_Store_learned_of.nd
    have ho := out_def (cxD_takes (P := P) (w := w) (K := K) (mg := mg) (base := base) (N := N_Store_learned_of) (qual := "Store.learned_of") (st := s_Store_learned_of) (f := He.fAd K ("Store", some "learned_of")) (cdv := cdv) (A := A) (outer := outer) (s := s) (H := H) (E := E))
    have tk := cxD_takes (P := P) (w := w) (K := K) (mg := mg) (base := base) (N := N_Store_learned_of) (qual := "Store.learned_of") (st := s_Store_learned_of) (f := He.fAd K ("Store", some "learned_of")) (cdv := cdv) (A := A) (outer := outer) (s := s) (H := H) (E := E)
    have pz := cxD_passes (P := P) (w := w) (K := K) (mg := mg) (base := base) (N := N_Store_learned_of) (qual := "Store.learned_of") (st := s_Store_learned_of) (f := He.fAd K ("Store", some "learned_of")) (cdv := cdv) (A := A) (outer := outer) (s := s) (H := H) (E := E)
    exact pss_one (ps_ret (pe_ix ix_seq (pe_mth (k := 8) (pv 0) (mo_one (He.cls_ok (c.fact 30 rfl)) (He.meth_ok (c.fact 149 rfl)) (cb_Store_read_chain KX G c) (by decide)) hr ho (pa_cons (pe_ix ix_seq (pe_mth (k := 8) (pv 0) (mo_one (He.cls_ok (c.fact 30 rfl)) (He.meth_ok (c.fact 80 rfl)) (cb_Store_sought_piece KX G c) (by decide)) hr ho (pa_cons (pv 1) (pa_nil))) (pe_int) (fun _ _ => rfl)) (pa_nil))) (pe_int) (fun _ _ => rfl))))
   (fun vs H Q E h => by
    obtain ⟨_, _, rfl, h⟩ := h
    haveI : HasCls K "Slot" := ⟨He.cls_ok (c.fact 0 rfl)⟩
    haveI : HasCls K "Even" := ⟨He.cls_ok (c.fact 1 rfl)⟩
    haveI : HasNo K "Even" "noughts" := ⟨He.noat_ok (c.fact 2 rfl)⟩
    haveI : HasNo K "Even" "ones" := ⟨He.noat_ok (c.fact 3 rfl)⟩
    haveI : HasCls K "Quick" := ⟨He.cls_ok (c.fact 4 rfl)⟩
    haveI : HasNo K "Quick" "held" := ⟨He.noat_ok (c.fact 5 rfl)⟩
    haveI : HasCls K "Run" := ⟨He.cls_ok (c.fact 6 rfl)⟩
    haveI : HasNo K "Run" "last" := ⟨He.noat_ok (c.fact 7 rfl)⟩
    haveI : HasNo K "Run" "length" := ⟨He.noat_ok (c.fact 8 rfl)⟩
    haveI : HasCls K "Book" := ⟨He.cls_ok (c.fact 9 rfl)⟩
    haveI : HasNo K "Book" "look" := ⟨He.noat_ok (c.fact 10 rfl)⟩
    haveI : HasNo K "Book" "slots" := ⟨He.noat_ok (c.fact 11 rfl)⟩
    haveI : HasCls K "Mixer" := ⟨He.cls_ok (c.fact 12 rfl)⟩
    haveI : HasNo K "Mixer" "shares" := ⟨He.noat_ok (c.fact 13 rfl)⟩
    haveI : HasCls K "Foreteller" := ⟨He.cls_ok (c.fact 14 rfl)⟩
    haveI : HasNo K "Foreteller" "kinds" := ⟨He.noat_ok (c.fact 15 rfl)⟩
    haveI : HasNo K "Foreteller" "books" := ⟨He.noat_ok (c.fact 16 rfl)⟩
    haveI : HasNo K "Foreteller" "mixer" := ⟨He.noat_ok (c.fact 17 rfl)⟩
    haveI : HasNo K "Foreteller" "ended" := ⟨He.noat_ok (c.fact 18 rfl)⟩
    haveI : HasNo K "Foreteller" "place" := ⟨He.noat_ok (c.fact 19 rfl)⟩
    haveI : HasNo K "Foreteller" "past" := ⟨He.noat_ok (c.fact 20 rfl)⟩
    haveI : HasCls K "Span" := ⟨He.cls_ok (c.fact 21 rfl)⟩
    haveI : HasNo K "Span" "low" := ⟨He.noat_ok (c.fact 22 rfl)⟩
    haveI : HasNo K "Span" "width" := ⟨He.noat_ok (c.fact 23 rfl)⟩
    haveI : HasNo K "Span" "size" := ⟨He.noat_ok (c.fact 24 rfl)⟩
    haveI : HasCls K "Seeker" := ⟨He.cls_ok (c.fact 25 rfl)⟩
    haveI : HasNo K "Seeker" "row" := ⟨He.noat_ok (c.fact 26 rfl)⟩
    haveI : HasNo K "Seeker" "span" := ⟨He.noat_ok (c.fact 27 rfl)⟩
    haveI : HasNo K "Seeker" "number" := ⟨He.noat_ok (c.fact 28 rfl)⟩
    haveI : HasNo K "Seeker" "taken" := ⟨He.noat_ok (c.fact 29 rfl)⟩
    haveI : HasCls K "Store" := ⟨He.cls_ok (c.fact 30 rfl)⟩
    haveI : HasNo K "Store" "kinds" := ⟨He.noat_ok (c.fact 31 rfl)⟩
    haveI : HasNo K "Store" "longest" := ⟨He.noat_ok (c.fact 32 rfl)⟩
    haveI : HasNo K "Store" "pieces" := ⟨He.noat_ok (c.fact 33 rfl)⟩
    haveI : HasTup K "KINDS" [.str "even", .str "quick", .str "run"] := tup_ok (c.ext 0 rfl)
    exact pure_Store_learned_of K h)
theorem ok_law (KX : K.In h) (G : h.Ns mainGlobals mg) (c : SaysX fa fn xf K) {fd : FuncData} (F : FunD K "law" "law" (defArgs s_law) (defBody s_law) (defScope s_law) [] [] (He.fAd K ("law", none)) fd) : FnOk P w K mg base (L2.CX P w) 10 (He.fAd K ("law", none)) fd ["_law_script"] (sp_law K) :=
  ok_of (T := t_law K) F sc_law (fun vs H Q E h => by
    obtain ⟨_, rfl, _⟩ := h
    rfl)
   (fun cdv A outer s H E hr => by
    have nd := sc_law.nd
    have ho := out_def (cxD_takes (P := P) (w := w) (K := K) (mg := mg) (base := base) (N := N_law) (qual := "law") (st := s_law) (f := He.fAd K ("law", none)) (cdv := cdv) (A := A) (outer := outer) (s := s) (H := H) (E := E))
    have tk := cxD_takes (P := P) (w := w) (K := K) (mg := mg) (base := base) (N := N_law) (qual := "law") (st := s_law) (f := He.fAd K ("law", none)) (cdv := cdv) (A := A) (outer := outer) (s := s) (H := H) (E := E)
    have pz := cxD_passes (P := P) (w := w) (K := K) (mg := mg) (base := base) (N := N_law) (qual := "law") (st := s_law) (f := He.fAd K ("law", none)) (cdv := cdv) (A := A) (outer := outer) (s := s) (H := H) (E := E)
    exact pss_cons (ps_set (i := 1) nd rfl (by first | exact Or.inl rfl | exact Or.inr rfl) (pe_fun (cb_Llooks KX G c) (hr.mono (by decide)) (He.glo_ok KX G (c.fact 154 rfl)) ho (pa_cons (pe_fun (cb_Lmixed KX G c) (hr.mono (by decide)) (He.glo_ok KX G (c.fact 155 rfl)) ho (pa_cons (pv 0) (pa_cons (pe_int) (pa_nil)))) (pa_cons (pe_int) (pa_nil)))))
       (pss_cons (ps_set (i := 2) nd rfl (by first | exact Or.inl rfl | exact Or.inr rfl) (pe_op o_plus (pe_int) (pe_op o_rest (pe_fun (cb_Lmixed KX G c) (hr.mono (by decide)) (He.glo_ok KX G (c.fact 155 rfl)) ho (pa_cons (pv 0) (pa_cons (pe_int) (pa_nil)))) (pe_int))))
       (pss_cons (ps_if (pt_cmpR (o_same hr.units) (pe_op o_rest (pe_op o_floor (pe_fun (cb_Lmixed KX G c) (hr.mono (by decide)) (He.glo_ok KX G (c.fact 155 rfl)) ho (pa_cons (pv 0) (pa_cons (pe_int) (pa_nil)))) (pe_int)) (pe_int)) (pe_int) (nomark _)) (pss_one (ps_set (i := 2) nd rfl (by first | exact Or.inl rfl | exact Or.inr rfl) (pe_int))) (pss_nil))
       (pss_cons (ps_set (i := 3) nd rfl (by first | exact Or.inl rfl | exact Or.inr rfl) (pe_fun (cb_Lnames KX G c) (hr.mono (by decide)) (He.glo_ok KX G (c.fact 156 rfl)) ho (pa_cons (pe_fun (cb_Lmixed KX G c) (hr.mono (by decide)) (He.glo_ok KX G (c.fact 155 rfl)) ho (pa_cons (pv 0) (pa_cons (pe_int) (pa_nil)))) (pa_cons (pv 2) (pa_nil)))))
       (pss_cons (ps_set (i := 4) nd rfl (by first | exact Or.inl rfl | exact Or.inr rfl) (pe_new (He.mkr_ok (c.fact 163 rfl)) (cb_Store_init_1 KX G c) (hr.mono (by decide)) (He.glo_ok KX G (c.fact 157 rfl)) ho (pa_cons (pv 1) (pa_nil))))
       (pss_cons (ps_set (i := 5) nd rfl (by first | exact Or.inl rfl | exact Or.inr rfl) (pe_dnewK))
       (pss_cons (ps_for pz rfl (pi_range1 (by rfl) (He.free_ok KX G (c.fact 45 rfl)) (pa_cons (pv 2) (pa_nil))) (pg_name (i := 6) nd rfl (by first | exact Or.inl rfl | exact Or.inr rfl)) (pss_cons (ps_set (i := 7) nd rfl (by first | exact Or.inl rfl | exact Or.inr rfl) (pe_fun (cb_Lmixed KX G c) (hr.mono (by decide)) (He.glo_ok KX G (c.fact 155 rfl)) ho (pa_cons (pv 0) (pa_cons (pe_op o_plus (pe_int) (pv 6)) (pa_nil)))))
       (pss_cons (ps_set (i := 8) nd rfl (by first | exact Or.inl rfl | exact Or.inr rfl) (pe_op o_times (pe_lst (pa_cons (pe_op o_rest (pv 7) (pe_int)) (pa_nil))) (pe_op o_rest (pe_op o_floor (pv 7) (pe_int)) (pe_int))))
       (pss_cons (ps_set (i := 9) nd rfl (by first | exact Or.inl rfl | exact Or.inr rfl) (pe_non))
       (pss_cons (ps_set (i := 10) nd rfl (by first | exact Or.inl rfl | exact Or.inr rfl) (pe_lst (pa_nil)))
       (pss_cons (ps_if (PW.pt (pw_and (pt_cmpR o_gt (pv 6) (pe_int) (nomark _)) (pw_and1 (PW.pt (pw_or (pt_cmpR (o_same hr.units) (pv 2) (pe_int) (nomark _)) (pw_or1 (pt_cmpR o_gt (pe_op o_rest (pe_op o_floor (pv 7) (pe_int)) (pe_int)) (pe_int) (nomark _)))))))) (pss_cons (ps_set (i := 9) nd rfl (by first | exact Or.inl rfl | exact Or.inr rfl) (pe_ix ix_seq (pv 3) (pe_op o_minus (pv 6) (pe_int)) (fun _ _ => rfl)))
       (pss_cons (ps_if (PW.pt (pw_and (pt_cmpR o_lt (pv 2) (pe_int) (nomark _)) (pw_and1 (pt_cmpR o_gt (pe_op o_rest (pe_op o_floor (pv 7) (pe_int)) (pe_int)) (pe_int) (nomark _))))) (pss_one (ps_set (i := 9) nd rfl (by first | exact Or.inl rfl | exact Or.inr rfl) (pe_ix ix_seq (pv 3) (pe_op o_rest (pe_op o_floor (pv 7) (pe_int)) (pv 6)) (fun _ _ => rfl)))) (pss_nil))
       (pss_one (ps_set (i := 10) nd rfl (by first | exact Or.inl rfl | exact Or.inr rfl) (pe_op o_plus (pe_ix ix_seq (pe_dget (hu_of hr) (pv 5) (pv 9) (fun _ _ => rfl)) (pe_int) (fun _ _ => rfl)) (pe_lst (pa_cons (pe_ix ix_seq (pe_dget (hu_of hr) (pv 5) (pv 9) (fun _ _ => rfl)) (pe_int) (fun _ _ => rfl)) (pa_nil)))))))) (pss_nil))
       (pss_cons (ps_expr (pe_mth (k := 9) (pv 4) (mo_one (He.cls_ok (c.fact 30 rfl)) (He.meth_ok (c.fact 158 rfl)) (cb_Store_put KX G c) (by decide)) hr ho (pa_cons (pe_ix ix_seq (pv 3) (pv 6) (fun _ _ => rfl)) (pa_cons (pe_callTy c_list (by rfl) (He.free_ok KX G (c.fact 44 rfl)) (by decide +kernel) (pa_cons (pv 8) (pa_nil))) (pa_cons (pv 9) (pa_nil))))))
       (pss_one (ps_dput (hu_of hr) (pv 5) (pe_ix ix_seq (pv 3) (pv 6) (fun _ _ => rfl)) (pe_tup (pa_cons (pv 10) (pa_cons (pv 8) (pa_nil)))) rfl)))))))))
       (pss_cons (ps_for pz rfl (pi_range1 (by rfl) (He.free_ok KX G (c.fact 45 rfl)) (pa_cons (pe_int) (pa_nil))) (pg_name (i := 11) nd rfl (by first | exact Or.inl rfl | exact Or.inr rfl)) (pss_one (ps_lock (ps_for pz rfl (pi_keys (pv 5)) (pg_name (i := 12) nd rfl (by first | exact Or.inl rfl | exact Or.inr rfl)) (pss_cons (ps_set (i := 13) nd rfl (by first | exact Or.inl rfl | exact Or.inr rfl) (pe_mth (k := 9) (pv 4) (mo_one (He.cls_ok (c.fact 30 rfl)) (He.meth_ok (c.fact 159 rfl)) (cb_Store_learned_of KX G c) (by decide)) hr ho (pa_cons (pv 12) (pa_nil))))
       (pss_cons (ps_if (PW.pt (pw_or (pt_not (pt_tru (pe_callB c_isi (by rfl) (He.free_ok KX G (c.fact 34 rfl)) (by decide +kernel) (pa_cons (pv 13) (pa_cons (pe_gty (He.free_ok KX G (c.fact 44 rfl)) (by decide +kernel)) (pa_nil)))))) (pw_or1 (pt_cmpR (o_diff hr.units) (pv 13) (pe_ix ix_seq (pe_dget (hu_of hr) (pv 5) (pv 12) (fun _ _ => rfl)) (pe_int) (fun _ _ => rfl)) (nomark _))))) (pss_one (ps_ret (pe_bl))) (pss_nil))
       (pss_cons (ps_for pz rfl (pi_list (pv 13)) (pg_name (i := 8) nd rfl (by first | exact Or.inl rfl | exact Or.inr rfl)) (pss_one (ps_expr (pe_bm PySem.F.plainAttrs_list PySem.F.slot_list_append PySem.F.type_list_append mt_append (pv 8) (pa_cons (pe_int) (pa_nil))))))
       (pss_one (ps_expr (pe_bm PySem.F.plainAttrs_list PySem.F.slot_list_append PySem.F.type_list_append mt_append (pv 13) (pa_cons (pe_lst (pa_cons (pe_int) (pa_nil))) (pa_nil))))))))))))
       (pss_cons (ps_set (i := 14) nd rfl (by first | exact Or.inl rfl | exact Or.inr rfl) (pe_ix ix_seq (pv 3) (pe_op o_minus (pv 2) (pe_int)) (fun _ _ => rfl)))
       (pss_cons (ps_set (i := 9) nd rfl (by first | exact Or.inl rfl | exact Or.inr rfl) (pe_ix ix_seq (pe_lst (pa_cons (pe_ix ix_seq (pv 3) (pe_int) (fun _ _ => rfl)) (pa_cons (pe_non) (pa_nil)))) (pe_callTy c_int (by rfl) (He.free_ok KX G (c.fact 35 rfl)) (by decide +kernel) (pa_cons (pe_or (pe_cmpR (o_same hr.units) (pv 2) (pe_int) (nomark _)) (pe_one (pe_cmpR o_notno (pe_mth (k := 9) (pv 4) (mo_one (He.cls_ok (c.fact 30 rfl)) (He.meth_ok (c.fact 160 rfl)) (cb_Store_base_of KX G c) (by decide)) hr ho (pa_cons (pv 14) (pa_nil))) (pe_non) (nomark _)))) (pa_nil))) (fun _ _ => rfl)))
       (pss_cons (ps_set (i := 10) nd rfl (by first | exact Or.inl rfl | exact Or.inr rfl) (pe_lst (pa_nil)))
       (pss_cons (ps_if (pt_cmpR o_notno (pv 9) (pe_non) (nomark _)) (pss_one (ps_set (i := 10) nd rfl (by first | exact Or.inl rfl | exact Or.inr rfl) (pe_op o_plus (pe_ix ix_seq (pe_dget (hu_of hr) (pv 5) (pv 9) (fun _ _ => rfl)) (pe_int) (fun _ _ => rfl)) (pe_lst (pa_cons (pe_ix ix_seq (pe_dget (hu_of hr) (pv 5) (pv 9) (fun _ _ => rfl)) (pe_int) (fun _ _ => rfl)) (pa_nil)))))) (pss_nil))
       (pss_cons (ps_expr (pe_mth (k := 9) (pv 4) (mo_one (He.cls_ok (c.fact 30 rfl)) (He.meth_ok (c.fact 161 rfl)) (cb_Store_drop KX G c) (by decide)) hr ho (pa_cons (pv 14) (pa_nil))))
       (pss_cons (ps_expr (pe_mth (k := 9) (pv 4) (mo_one (He.cls_ok (c.fact 30 rfl)) (He.meth_ok (c.fact 158 rfl)) (cb_Store_put KX G c) (by decide)) hr ho (pa_cons (pv 14) (pa_cons (pe_lst (pa_cons (pe_int) (pa_nil))) (pa_cons (pv 9) (pa_nil))))))
       (pss_one (ps_ret (pe_and (pe_cmpR (o_same hr.units) (pe_mth (k := 9) (pv 4) (mo_one (He.cls_ok (c.fact 30 rfl)) (He.meth_ok (c.fact 159 rfl)) (cb_Store_learned_of KX G c) (by decide)) hr ho (pa_cons (pv 14) (pa_nil))) (pv 10) (nomark _)) (pe_one (pe_cmpR (o_same hr.units) (pe_mth (k := 9) (pv 4) (mo_one (He.cls_ok (c.fact 30 rfl)) (He.meth_ok (c.fact 162 rfl)) (cb_Store_text_of KX G c) (by decide)) hr ho (pa_cons (pv 14) (pa_nil))) (pe_lst (pa_cons (pe_int) (pa_nil))) (nomark _))))))))))))))))))))
   (fun vs H Q E h => by
    obtain ⟨_, rfl, h⟩ := h
    haveI : HasCls K "Slot" := ⟨He.cls_ok (c.fact 0 rfl)⟩
    haveI : HasCls K "Even" := ⟨He.cls_ok (c.fact 1 rfl)⟩
    haveI : HasNo K "Even" "noughts" := ⟨He.noat_ok (c.fact 2 rfl)⟩
    haveI : HasNo K "Even" "ones" := ⟨He.noat_ok (c.fact 3 rfl)⟩
    haveI : HasCls K "Quick" := ⟨He.cls_ok (c.fact 4 rfl)⟩
    haveI : HasNo K "Quick" "held" := ⟨He.noat_ok (c.fact 5 rfl)⟩
    haveI : HasCls K "Run" := ⟨He.cls_ok (c.fact 6 rfl)⟩
    haveI : HasNo K "Run" "last" := ⟨He.noat_ok (c.fact 7 rfl)⟩
    haveI : HasNo K "Run" "length" := ⟨He.noat_ok (c.fact 8 rfl)⟩
    haveI : HasCls K "Book" := ⟨He.cls_ok (c.fact 9 rfl)⟩
    haveI : HasNo K "Book" "look" := ⟨He.noat_ok (c.fact 10 rfl)⟩
    haveI : HasNo K "Book" "slots" := ⟨He.noat_ok (c.fact 11 rfl)⟩
    haveI : HasCls K "Mixer" := ⟨He.cls_ok (c.fact 12 rfl)⟩
    haveI : HasNo K "Mixer" "shares" := ⟨He.noat_ok (c.fact 13 rfl)⟩
    haveI : HasCls K "Foreteller" := ⟨He.cls_ok (c.fact 14 rfl)⟩
    haveI : HasNo K "Foreteller" "kinds" := ⟨He.noat_ok (c.fact 15 rfl)⟩
    haveI : HasNo K "Foreteller" "books" := ⟨He.noat_ok (c.fact 16 rfl)⟩
    haveI : HasNo K "Foreteller" "mixer" := ⟨He.noat_ok (c.fact 17 rfl)⟩
    haveI : HasNo K "Foreteller" "ended" := ⟨He.noat_ok (c.fact 18 rfl)⟩
    haveI : HasNo K "Foreteller" "place" := ⟨He.noat_ok (c.fact 19 rfl)⟩
    haveI : HasNo K "Foreteller" "past" := ⟨He.noat_ok (c.fact 20 rfl)⟩
    haveI : HasCls K "Span" := ⟨He.cls_ok (c.fact 21 rfl)⟩
    haveI : HasNo K "Span" "low" := ⟨He.noat_ok (c.fact 22 rfl)⟩
    haveI : HasNo K "Span" "width" := ⟨He.noat_ok (c.fact 23 rfl)⟩
    haveI : HasNo K "Span" "size" := ⟨He.noat_ok (c.fact 24 rfl)⟩
    haveI : HasCls K "Seeker" := ⟨He.cls_ok (c.fact 25 rfl)⟩
    haveI : HasNo K "Seeker" "row" := ⟨He.noat_ok (c.fact 26 rfl)⟩
    haveI : HasNo K "Seeker" "span" := ⟨He.noat_ok (c.fact 27 rfl)⟩
    haveI : HasNo K "Seeker" "number" := ⟨He.noat_ok (c.fact 28 rfl)⟩
    haveI : HasNo K "Seeker" "taken" := ⟨He.noat_ok (c.fact 29 rfl)⟩
    haveI : HasCls K "Store" := ⟨He.cls_ok (c.fact 30 rfl)⟩
    haveI : HasNo K "Store" "kinds" := ⟨He.noat_ok (c.fact 31 rfl)⟩
    haveI : HasNo K "Store" "longest" := ⟨He.noat_ok (c.fact 32 rfl)⟩
    haveI : HasNo K "Store" "pieces" := ⟨He.noat_ok (c.fact 33 rfl)⟩
    haveI : HasTup K "KINDS" [.str "even", .str "quick", .str "run"] := tup_ok (c.ext 0 rfl)
    exact pure_law K h)
end
theorem facts {P : Program} {w : World} {K : PySem.W.Frag} {h : Heap} {mg : Str → Option Value} {f : Addr} (X : K.In h) (G : h.Ns mainGlobals mg) (hfa : mg ("law" : Str) = some (.ref f)) (c : SaysX fa fn xf K) :
    ∃ fd : FuncData, (∀ (s : Shared) (v : Value), BindsTo s fd ⟨[v], []⟩ [("_law_script", v)]) ∧ ∀ base : Heap, K.In base → base.Ns mainGlobals mg → FnOk P w K mg base (L2.CX P w) 10 f fd ["_law_script"] (sp_law K) := by
  obtain ⟨fd, F⟩ := c.def_ 65 rfl
  have e := hfa.symm.trans (He.glo_ok X G (c.fact 164 rfl))
  cases e
  have b := FunD.bindsA (ps := ["_law_script"]) F fun _ _ _ _ _ _ us hl => match us, hl with | [_], _ => rfl
  exact ⟨fd, fun s v => b s [v] rfl, fun base _ _ => ok_law (P := P) (w := w) (base := base) X G c F⟩
theorem cx_end {P : Program} {w : World} (H : Hp) (s : Shared) (e : Value) (s' : Shared) (z : L2.CX P w [] H s (fun _ _ _ => False) e s') : False := by
  obtain ⟨_, _, _, _, _, _, _, _, _, _, _, _, z⟩ := z
  exact z
end Fo
open PySem PySem.W PySem.Calls PyProof.Rows
theorem PySem.Challenge.cw_foretell_k41_learned_of_holds : PySem.Challenge.rw_foretell_k41_learned_of.Holds := by
  refine Fo.early fun said => ?_
  refine HandSHeadRun.head_any (r := Fo.W_.row) (q := view Fo.W_.row.prog [79]) (H := Fo.hk) (ob := Fo.ob) (M := 16140) (loose := Fo.loose) (d := HandSHeadRun.topDef Fo.W_.row.prog 79) (kwd := []) Fo.ob_eq
    (by kernel_rfl) (fun s => by kernel_rfl) Fo.run (by kernel_rfl) (by kernel_rfl) (by kernel_rfl) (by rfl) (by first | assumption | decide +kernel) (by decide +kernel) ⟨rfl, rfl, rfl, rfl, rfl, by decide +kernel⟩ ?hw ?hc
  case hw => w_witness2
  case hc =>
    refine L2.walk_ofE (l := Fo.W_) (n := 63) (k := 10) (x := "_law_script") (CX := fun o H s E u s' => ∃ (P : Program) (w : World), L2.CX P w o H s E u s') rfl (by decide) (by kernel_rfl) ⟨rfl, by decide, by decide⟩ ?F (fun H s e s' z => by obtain ⟨P, w, z⟩ := z; exact Fo.cx_end H s e s' z)
    intro w mg fa h Y G hmg0
    obtain ⟨K, KX, c⟩ := Y
    have hmg : mg ("law" : PySem.Str) = some (.ref fa) := by
      have e : (HandSHeadRun.topDef Fo.W_.row.prog 79).name = ("law" : PySem.Str) := by kernel_rfl
      rw [← e]
      exact hmg0
    obtain ⟨fd, hb, hF⟩ := Fo.facts (P := Fo.W_.prog) (w := w) KX G hmg c
    exact ⟨K, fd, Fo.sp_law K, KX, hb, fun H a ns hl _ hS => Fo.law_here K H a ns hl hS, fun base hB hG => Fo.cx_any (hF base hB hG)⟩


