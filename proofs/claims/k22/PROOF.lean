import PyProof.Rows.All
import PySem.Challenge.RW_foretell_k22_whole_no_worse
import Wide.All
import OpenK.AllK
import Wide.FinOn
import KE.KStateDown
import HandS.ForSpec
import HandS.Comp
import HandS.Conv
import HandS.Iter
import HandS.Zip
import HandS.Text
import HandS.More
import HandS.Dict
import HandS.Wide
import HandS.WideBits
import HandS.Flow
import HandS.IsInst
import HandS.Steps
import HandS.Defaults
import HandS.CallSlots
import HandS.CallRecv
import HandS.TryOnly
import HandS.TryElse
import HandS.ExcIs
import HandS.ExcOwn
import HandS.New0
import HandS.WordsExc
import HandS.Head0
import HandS.Head1
import HandS.Head2
import HandS.HeadEnd
import HandS.HeadHook1
import HandS.HeadHook2
set_option Elab.async false
set_option linter.all false
set_option maxRecDepth 100000
set_option maxHeartbeats 4000000
namespace Fo
open PySem PySem.Spec PyProof.Rows L2
/-! Fo: one reading for each operator, whatever the kinds of its operands; steps of readings; calls by bundles. -/
abbrev St := L2.St
abbrev Ends := L2.Ends
theorem orOp {X : Cx} {f : Value → Value → Sem Value} {r r' : R2} (h : OpR X f r) (h' : OpR X f r') : OpR X f (fun x y H Q => r x y H Q ∨ r' x y H Q) := by
  intro pins s σ H x y v u Q I rx ry q
  rcases q with q | q
  · exact h pins s σ H x y v u Q I rx ry q
  · exact h' pins s σ H x y v u Q I rx ry q
theorem orCall {X : Cx} {f : Value} {r r' : List V → Hp → VK → Prop} (h : CallR X f r) (h' : CallR X f r') : CallR X f (fun xs H Q => r xs H Q ∨ r' xs H Q) := by
  intro pins s σ H xs us Q I rs q
  rcases q with q | q
  · exact h pins s σ H xs us Q I rs q
  · exact h' pins s σ H xs us Q I rs q
/-! ### operators -/
def iAdd : R2 := rI0 fun i j => .int (i + j)
def sAdd : R2 := fun x y H Q => ∃ i j, x = .str i ∧ y = .str j ∧ i.length + j.length ≤ sizeLine ∧ Q (.str (i ++ j)) H
def rPlus (K : PySem.W.Frag) : R2 := fun x y H Q => iAdd x y H Q ∨ (rCat x y H Q ∨ (sAdd x y H Q ∨ rCatT K x y H Q))
def rMinus : R2 := rI0 fun i j => .int (i - j)
def iMul : R2 := rI IntMulOk fun i j => .int (i * j)
def rTimes : R2 := fun x y H Q => iMul x y H Q ∨ rRep x y H Q
def rFloor : R2 := rI CDivW fun i j => .int (i / j)
def rRest : R2 := rI (fun _ j => 0 < j) fun i j => .int (i % j)
def rPow : R2 := rI CPow fun i j => .int (i ^ j.toNat)
def rLsh : R2 := rI CShl fun i j => .int (i * 2 ^ j.toNat)
def rRsh : R2 := rI (fun _ j => 0 ≤ j) fun i j => .int (i / 2 ^ j.toNat)
def rMask : R2 := fun x y H Q => ∃ (i : Int) (k : Nat), x = .int i ∧ y = .int (2 ^ k - 1) ∧ Q (.int (i % 2 ^ k)) H
def rNeg : V → Hp → VK → Prop := rU fun i => .int (-i)
def iLt : R2 := rI0 fun i j => .bl (decide (i < j))
def iLe : R2 := rI0 fun i j => .bl (decide (i ≤ j))
def iGt : R2 := rI0 fun i j => .bl (decide (j < i))
def iGe : R2 := rI0 fun i j => .bl (decide (j ≤ i))
def sLe : R2 := fun x y H Q => ∃ i j, x = .str i ∧ y = .str j ∧ Q (.bl (!decide (j.cps.toList < i.cps.toList))) H
def rLe : R2 := fun x y H Q => iLe x y H Q ∨ sLe x y H Q
def rSame (K : PySem.W.Frag) : R2 := fun x y H Q => rEq x y H Q ∨ rEqD K x y H Q
def rDiff (K : PySem.W.Frag) : R2 := fun x y H Q => rNe x y H Q ∨ rNeD K x y H Q
def rIsNo : R2 := fun x y H Q => y = .non ∧ Q (.bl (decide (x = .non))) H
def rNotNo : R2 := fun x y H Q => y = .non ∧ Q (.bl (!decide (x = .non))) H
def rAmong (K : PySem.W.Frag) : R2 := fun x y H Q => rIn K false x y H Q ∨ rInS x y H Q
def rNotAmong (K : PySem.W.Frag) : R2 := fun x y H Q => rIn K true x y H Q ∨ rNotInS x y H Q
section
variable {X : Cx}
theorem o_plus : OpR X (binaryOp .Add) (rPlus X.K) := orOp op_add (orOp op_cat (orOp op_add_str op_catT))
theorem o_minus : OpR X (binaryOp .Sub) rMinus := op_sub
theorem o_imul : OpR X (binaryOp .Mult) iMul := opI fun _ _ _ _ _ _ _ hc q => mul_int q hc
theorem o_times : OpR X (binaryOp .Mult) rTimes := orOp o_imul op_rep
theorem o_floor : OpR X (binaryOp .FloorDiv) rFloor := op_fdivW
theorem o_rest : OpR X (binaryOp .Mod) rRest := op_mod
theorem o_pow : OpR X (binaryOp .Pow) rPow := op_pow
theorem o_lsh : OpR X (binaryOp .LShift) rLsh := op_shlW
theorem o_rsh : OpR X (binaryOp .RShift) rRsh := op_shr
theorem o_mask : OpR X (binaryOp .BitAnd) rMask := op_andM
theorem o_neg : UnR X (unaryOp .USub) rNeg := un_neg
theorem o_lt : OpR X (compareOp .Lt) iLt := op_lt
theorem o_le : OpR X (compareOp .LtE) rLe := orOp op_le op_le_str
theorem o_gt : OpR X (compareOp .Gt) iGt := op_gt
theorem o_ge : OpR X (compareOp .GtE) iGe := op_ge
theorem o_same (hu : X.A.units + 64 < cLine) : OpR X (compareOp .Eq) (rSame X.K) := orOp op_eq (op_eqD hu)
theorem o_diff (hu : X.A.units + 64 < cLine) : OpR X (compareOp .NotEq) (rDiff X.K) := orOp op_ne (op_neD hu)
theorem o_isno : OpR X (compareOp .Is) rIsNo := op_isN
theorem o_notno : OpR X (compareOp .IsNot) rNotNo := op_notN
theorem o_among : OpR X (compareOp .In) (rAmong X.K) := orOp op_in_seq op_inS
theorem o_notamong : OpR X (compareOp .NotIn) (rNotAmong X.K) := orOp op_notIn_seq op_notInS
end
/-! ### built-ins -/
def rLength (K : PySem.W.Frag) : List V → Hp → VK → Prop := fun xs H Q => ∃ x n, xs = [x] ∧ LenV K x H n ∧ Q (.int n) H
def rListOf (K : PySem.W.Frag) : List V → Hp → VK → Prop := fun xs H Q => ∃ p ys, xs = [.ref p] ∧ (SqL K H p ys ∨ SqT K H p ys) ∧ ∀ l, H l = none → Q (.ref l) (upd H l (.lst ys))
def rTupleOf (K : PySem.W.Frag) : List V → Hp → VK → Prop := fun xs H Q => ∃ p ys, xs = [.ref p] ∧ ((SqL K H p ys ∧ ∀ l, H l = none → Q (.ref l) (upd H l (.tup ys))) ∨ (SqT K H p ys ∧ Q (.ref p) H))
def rMax2 : List V → Hp → VK → Prop := fun xs H Q => ∃ i j, xs = [.int i, .int j] ∧ Q (.int (if j > i then j else i)) H
def rMin2 : List V → Hp → VK → Prop := fun xs H Q => ∃ i j, xs = [.int i, .int j] ∧ Q (.int (if j < i then j else i)) H
def rGreatest (K : PySem.W.Frag) : List V → Hp → VK → Prop := fun xs H Q => rMax2 xs H Q ∨ L2.rMax K xs H Q
def rLeast (K : PySem.W.Frag) : List V → Hp → VK → Prop := fun xs H Q => rMin2 xs H Q ∨ L2.rMin K xs H Q
def rInt1 : List V → Hp → VK → Prop := fun xs H Q => (∃ i, xs = [.int i] ∧ Q (.int i) H) ∨ ∃ k, xs = [.bl k] ∧ Q (.int (if k then 1 else 0)) H
def rIsi2 (K : PySem.W.Frag) : List V → Hp → VK → Prop := fun xs H Q => rIsi K xs H Q ∨ rIsiT K xs H Q
section
variable {X : Cx}
theorem c_len : CallR X (.builtin "len") (rLength X.K) := call_len
theorem c_list : CallR X (.type "list") (rListOf X.K) := call_list_of
theorem c_tuple : CallR X (.type "tuple") (rTupleOf X.K) := call_tuple_of
theorem c_max (hc : X.calm = true) : CallR X (.builtin "max") (rGreatest X.K) := orCall (call_max2 hc) (cr_max hc)
theorem c_min (hc : X.calm = true) : CallR X (.builtin "min") (rLeast X.K) := orCall (call_min2 hc) (cr_min hc)
theorem c_int : CallR X (.type "int") rInt1 := call_int1
theorem c_isi : CallR X (.builtin "isinstance") (rIsi2 X.K) := orCall call_isi call_isiT
theorem c_all (hc : X.calm = true) : CallR X (.builtin "all") (rAll X.K) := cr_all hc
theorem c_any (hc : X.calm = true) : CallR X (.builtin "any") (rAny X.K) := cr_any hc
theorem c_sum (hc : X.calm = true) : CallR X (.builtin "sum") (rSum X.K) := cr_sum hc
end
/-! ### truth of a value -/
theorem pt_tru {X : Cx} {a : Expr} {ta : TE} (ha : PE X a ta) (he : ∀ whole, isTrue a X.env whole = (do let v ← whole; standAt a.pos; holding [v] (truthy v)) := by intro _; rfl) : PT X a (tTru X.K ta) := pt_truth ha he
/-! Fo, calls: a def, a method, a class, each by a bundle of what its call needs; what is raised is wished for at the slots where the call stands. -/
/-- what is raised reaches those around, whatever the slots -/
def Out (X : Cx) (E : St → XK) : Prop := ∀ σ, PassesAt (L2.CX X.prog X.w) X σ (E σ)
theorem out_try {X : Cx} {W : WX} (tk : Takes X W) : Out X (WE W) := fun σ => passAt tk σ
theorem out_def {X : Cx} {E : XK} (tk : Takes X (fun cls d _ H => E cls d H)) : Out X (fun _ => E) := fun σ => passAt tk σ
/-- nothing is let out (a comprehension's block) -/
theorem out_none {X : Cx} : Out X (fun _ => E0) := fun _ _ _ _ _ _ _ h => by
  obtain ⟨_, _, _, _, _, _, _, _, _, _, _, _, z⟩ := h
  exact z.elim
/-- a def as it may be called: level, address, parameters, the defaults that fill up, promise -/
structure Cb (P : Program) (w : World) (K : PySem.W.Frag) (mg : Str → Option Value) (base : Heap) (k : Nat) (f : Addr) (ps : List Str) (dvs : List V) (sp : Sp) : Prop where
  ex : ∃ (fd : FuncData) (ds : List Value), FnOk P w K mg base (L2.CX P w) k f fd ps sp ∧ Binds K fd ps ds ∧ Vals dvs ds
  kp : PySem.W.keepIn K (.ref f) = true
abbrev CbX (X : Cx) (k : Nat) (f : Addr) (ps : List Str) (dvs : List V) (sp : Sp) : Prop := Cb X.prog X.w X.K X.mg X.base k f ps dvs sp
section
variable {X : Cx} {k : Nat} {f C : Addr} {ps : List Str} {sp : Sp} {dvs : List V} {E : St → XK} {x m : Str} {p pos apos : Pos} {e o : Expr} {es : List Expr} {ta : TE} {t : TA}
abbrev tFun : Sp → List V → (St → XK) → TA → TE := tCallSD
theorem pe_fun (B : CbX X k f ps dvs sp) (hr : Room k X.A) (hm : X.mg x = some (.ref f)) (hx : Out X E) (ha : PA X (e :: es) t) (hg : Gl X x := by rfl)
    (hdb : (x == ("__debug__" : Str)) = false := by decide) (he : starEach (e :: es) X.env = (false, eval e X.env) :: starEach es X.env := by rfl)
    (hpl : (backTo pos (starEach es X.env)).any (·.1) = false := by rfl) : PE X (.Call (.Name x p) (e :: es) [] pos) (tFun sp dvs E t) := by
  obtain ⟨fd, ds, F, hb, hd⟩ := B.ex
  exact pe_callSD F hr hg hm B.kp hb hd hx ha hdb he hpl
/-- o.m(..): ms tells of which classes the receiver may be, and each one's promise -/
def tMth (m : Str) (ms : Addr → Sp → Prop) (E : St → XK) (ta : TE) (t : TA) : TE := fun σ H Q =>
  ta σ H fun x H1 => ∃ a C dx fs sp, x = .ref a ∧ H1 a = some (.ins C dx fs) ∧ ms C sp ∧ fs.lookup m = none ∧ t σ H1 fun vs H2 => sp (x :: vs) H2 Q (E σ)
def one (C0 : Addr) (sp0 : Sp) : Addr → Sp → Prop := fun C sp => C = C0 ∧ sp = sp0
def oneD (C0 : Addr) (sp0 : Sp) (dvs : List V) : Addr → Sp → Prop := fun C sp => C = C0 ∧ sp = fun vs H Q E => sp0 (vs ++ dvs) H Q E
def orM (m1 m2 : Addr → Sp → Prop) : Addr → Sp → Prop := fun C sp => m1 C sp ∨ m2 C sp
/-- what is needed of each class -/
def MthOk (P : Program) (w : World) (K : PySem.W.Frag) (mg : Str → Option Value) (base : Heap) (k : Nat) (m : Str) (ms : Addr → Sp → Prop) : Prop :=
  ∀ C sp, ms C sp → Cls K C ∧ ∃ (f : Addr) (ps : List Str) (dvs : List V) (sp' : Sp), Meth K C m f ∧ Cb P w K mg base k f ps dvs sp' ∧ ∀ vs H Q E, sp vs H Q E → sp' (vs ++ dvs) H Q E
theorem mo_one {P : Program} {w : World} {K : PySem.W.Frag} {mg : Str → Option Value} {base : Heap} (c : Cls K C) (hm : Meth K C m f) {j : Nat} (B : Cb P w K mg base j f ps [] sp) (hj : j ≤ k) : MthOk P w K mg base k m (one C sp) := by
  rintro C' sp' ⟨rfl, rfl⟩
  obtain ⟨⟨fd, ds, F, r⟩, kp⟩ := B
  exact ⟨c, f, ps, [], sp', hm, ⟨⟨fd, ds, F.mono hj, r⟩, kp⟩, fun vs H Q E h => by rw [List.append_nil]; exact h⟩
theorem mo_oneD {P : Program} {w : World} {K : PySem.W.Frag} {mg : Str → Option Value} {base : Heap} (c : Cls K C) (hm : Meth K C m f) {j : Nat} (B : Cb P w K mg base j f ps dvs sp) (hj : j ≤ k) : MthOk P w K mg base k m (oneD C sp dvs) := by
  rintro C' sp' ⟨rfl, rfl⟩
  obtain ⟨⟨fd, ds, F, r⟩, kp⟩ := B
  exact ⟨c, f, ps, dvs, sp, hm, ⟨⟨fd, ds, F.mono hj, r⟩, kp⟩, fun vs H Q E h => h⟩
theorem mo_or {P : Program} {w : World} {K : PySem.W.Frag} {mg : Str → Option Value} {base : Heap} {m1 m2 : Addr → Sp → Prop} (h1 : MthOk P w K mg base k m m1) (h2 : MthOk P w K mg base k m m2) : MthOk P w K mg base k m (orM m1 m2) := fun C sp h => h.elim (h1 C sp) (h2 C sp)
abbrev MForm (m : Str) (o : Expr) (es : List Expr) (apos pos : Pos) (env : Env) (pl : Sem Bool) : Prop :=
  eval (.Call (.Attribute o m apos) es [] pos) env = (do
    let ov ← eval o env
    standAt apos.atName
    let (g, first) ← holding [ov] (getMethod ov m pl)
    callWith pos g first (backTo pos (starEach es env)) (backToKw pos (keywordEach [] env)))
theorem pe_mth {pl : Sem Bool} {ms : Addr → Sp → Prop} (he : PE X o ta) (M : MthOk X.prog X.w X.K X.mg X.base k m ms) (hr : Room k X.A) (hx : Out X E) (ha : PA X (e :: es) t)
    (hst : starEach (e :: es) X.env = (false, eval e X.env) :: starEach es X.env := by rfl) (hpl : (backTo pos (starEach es X.env)).any (·.1) = false := by rfl)
    (ht : MForm m o (e :: es) apos pos X.env pl := by rfl) : PE X (.Call (.Attribute o m apos) (e :: es) [] pos) (tMth m ms E ta t) := by
  refine ⟨fun pins s σ H Q I h => ?_⟩
  refine PySem.W.methodCall_KW (pl := pl) (thn (he.run pins s σ H _ I h) fun u s1 hh => ?_) ht
  obtain ⟨y, H1, I1, ry, a, C, dx, fs, sp, ey, ea, hC, l, q⟩ := hh
  obtain ⟨c, f, ps, dvs, sp', hm, B, imp⟩ := M C sp hC
  obtain ⟨fd, ds, F, hb, hd⟩ := B.ex
  subst ey
  obtain rfl : u = Value.ref a := ry
  refine getmeth_ok I1 ea c hm l ?_
  refine PySem.W.callWith_K (first := [.ref a]) (h₀ := X.base) I.ok.mod.kin hm.kp (thn (ha.run pos pins s1 σ H1 _ I1 q) fun us s2 hh => ?_) hst hpl
  obtain ⟨vs, H2, I2, r, q2⟩ := hh
  exact ⟨I2.kIn, run_fnSD (us := .ref a :: us) (vs := .ref a :: vs) F hr hb hd (hx σ) I2 (.cons rfl r) (imp _ _ _ _ q2)⟩
theorem pe_mth0 {pl : Sem Bool} {ms : Addr → Sp → Prop} (he : PE X o ta) (M : MthOk X.prog X.w X.K X.mg X.base k m ms) (hr : Room k X.A) (hx : Out X E)
    (ht : MForm m o [] apos pos X.env pl := by rfl) : PE X (.Call (.Attribute o m apos) [] [] pos) (tMth m ms E ta tNil) := by
  refine ⟨fun pins s σ H Q I h => ?_⟩
  refine PySem.W.methodCall_KW (pl := pl) (thn (he.run pins s σ H _ I h) fun u s1 hh => ?_) ht
  obtain ⟨y, H1, I1, ry, a, C, dx, fs, sp, ey, ea, hC, l, q⟩ := hh
  obtain ⟨c, f, ps, dvs, sp', hm, B, imp⟩ := M C sp hC
  obtain ⟨fd, ds, F, hb, hd⟩ := B.ex
  subst ey
  obtain rfl : u = Value.ref a := ry
  refine getmeth_ok I1 ea c hm l ?_
  exact PySem.W.callWith_K0 (first := [.ref a]) I1.kIn hm.kp (run_fnSD (us := [.ref a]) (vs := [.ref a]) F hr hb hd (hx σ) I1 (.cons rfl .nil) (imp _ _ _ _ q))
/-- C(..): the new instance x and its dict dx, then __init__ -/
def tNew (C : Addr) (sp : Sp) (dvs : List V) (E : St → XK) (t : TA) : TE := fun σ H Q => t σ H fun vs H1 => ∀ x dx, H1 x = none → H1 dx = none → dx ≠ x →
  sp (.ref x :: (vs ++ dvs)) (upd (upd H1 dx (.own x)) x (.ins C dx [])) (fun v H2 => v = .non ∧ Q (.ref x) H2) (E σ)
theorem run_new {pins : List (Addr × Obj)} {σ : St} {H : Hp} {s : Shared} {Q : VK} {us : List Value} {vs : List V} (M : Mk X.K C f) (B : CbX X k f ps dvs sp) (hr : Room (k + 1) X.A) (hx : Out X E) (I : Inv X pins σ H s) (r : Vals vs us)
    (h : ∀ x dx, H x = none → H dx = none → dx ≠ x → sp (.ref x :: (vs ++ dvs)) (upd (upd H dx (.own x)) x (.ins C dx [])) (fun v H2 => v = .non ∧ Q (.ref x) H2) (E σ)) :
    wpAny (model X.prog X.w) X.A (call (.ref C) us) (EP X pins σ Q) X.xe s := by
  obtain ⟨fd, ds, F, hb, hd⟩ := B.ex
  have n1 := I.hok.fresh (Nat.le_succ s.heap.objs.size)
  have n2 := I.hok.fresh (Nat.le_refl s.heap.objs.size)
  have hq := h (s.heap.objs.size + 1) s.heap.objs.size n1 n2 (Nat.ne_of_lt (Nat.lt_succ_self _))
  have I2 := Inv.made (C := C) I
  have r2 : Vals (V.ref (s.heap.objs.size + 1) :: (vs ++ dvs)) (Value.ref (s.heap.objs.size + 1) :: (us ++ ds)) := .cons rfl (r.append hd)
  have hl : (Value.ref (s.heap.objs.size + 1) :: us ++ ds).length = ps.length := r2.length.symm.trans (F.len _ _ _ _ hq)
  have go := F.run _ X.stack _ _ ⟨Value.ref (s.heap.objs.size + 1) :: us, []⟩ _ _ _ (E σ) (hr.make C us []) (I2.env0.make C us []) (hb _ (Value.ref (s.heap.objs.size + 1) :: us) I2.kIn hl) r2 hq
  refine wpAny_call (make_map (f := f) I.kIn M.makes M.init (beq_iff_eq.mp M.fn) (codeAny_mono go fun res s' hq' => ?_))
  match res, hq' with
  | .error er, hq' => exact hx σ pins _ _ er s' I2 hq'
  | .ok (.ret u), hq' =>
    obtain ⟨rv, H', I3, rel, ev, q3⟩ := I2.after hq'
    subst ev
    exact ⟨rel, ⟨V.ref (s.heap.objs.size + 1), H', I3, rfl, q3⟩⟩
  | .ok .next, hq' => exact False.elim hq'
  | .ok .brk, hq' => exact False.elim hq'
  | .ok .cont, hq' => exact False.elim hq'
theorem pe_new (M : Mk X.K C f) (B : CbX X k f ps dvs sp) (hr : Room (k + 1) X.A) (hm : X.mg x = some (.ref C)) (hx : Out X E) (ha : PA X (e :: es) t) (hg : Gl X x := by rfl)
    (hdb : (x == ("__debug__" : Str)) = false := by decide) (he : starEach (e :: es) X.env = (false, eval e X.env) :: starEach es X.env := by rfl)
    (hpl : (backTo pos (starEach es X.env)).any (·.1) = false := by rfl) : PE X (.Call (.Name x p) (e :: es) [] pos) (tNew C sp dvs E t) := by
  refine ⟨fun pins s σ H Q I h => ?_⟩
  refine wpAny_Call_Name_kw (ld_glob I hg hm ?_ hdb)
  refine PySem.W.callWith_K (h₀ := X.base) I.ok.mod.kin M.kp (thn (ha.run pos pins s σ H _ I h) fun us s1 hh => ?_) he hpl
  obtain ⟨vs, H1, I1, r, q⟩ := hh
  exact ⟨I1.kIn, run_new M B hr hx I1 r q⟩
theorem pe_new0 (M : Mk X.K C f) (B : CbX X k f ps dvs sp) (hr : Room (k + 1) X.A) (hm : X.mg x = some (.ref C)) (hx : Out X E) (hg : Gl X x := by rfl)
    (hdb : (x == ("__debug__" : Str)) = false := by decide) : PE X (.Call (.Name x p) [] [] pos) (tNew C sp dvs E tNil) := by
  refine ⟨fun pins s σ H Q I h => ?_⟩
  refine wpAny_Call_Name_kw (ld_glob I hg hm ?_ hdb)
  exact PySem.W.callWith_K0 I.kIn M.kp (run_new (us := []) M B hr hx I .nil h)
end
/-- an own class of exceptions -/
structure Exn (K : PySem.W.Frag) (mg : Str → Option Value) (x : Str) (C : Addr) : Prop where
  g : mg x = some (.ref C)
  ok : PySem.W.excIn K C He.veBase "ValueError.__new__" = true
  kp : PySem.W.keepIn K (.ref C) = true
  sub : PySem.W.subIn K (.ref C) (.type "BaseException") = some true
  ty : PySem.W.typeIn K (.ref C) = some (.type "type")
section
variable {X : Cx} {C : Addr} {W : WX} {x m : Str} {j : Nat} {p p2 pos pos2 : Pos}
/-- raise C('m') -/
def tRz (W : WX) (C : Addr) : TS := fun _ σ H => W (.ref C) none σ H
theorem ps_rz (N : Exn X.K X.mg x C) (hc : X.calm = true) (tk : Takes X W) (hg : Gl X x := by rfl) (hdb : (x == ("__debug__" : Str)) = false := by decide) :
    PS X (.Raise (some (.Call (.Name x p) [.Constant (.str m) j p2] [] pos)) none pos2) (tRz W C) :=
  ps_raise hc tk (pmk_own PySem.F.excBase_ValueError N.ok N.g N.kp (raises_own N.sub N.ty) hg hdb)
end
/-! ### globals as values -/
section
variable {X : Cx} {x : Str} {pos : Pos}
theorem pe_gint {i : Int} (hm : ∃ t, X.mg x = some (.int i t)) (hg : Gl X x := by rfl) (hd : (x == ("__debug__" : Str)) = false := by decide) : PE X (.Name x pos) (tC (.int i)) := by
  obtain ⟨t, hm⟩ := hm
  exact pe_glob hg hm ⟨t, rfl⟩ hd
theorem pe_gstr {z : Str} (hm : ∃ t, X.mg x = some (.str z t)) (hg : Gl X x := by rfl) (hd : (x == ("__debug__" : Str)) = false := by decide) : PE X (.Name x pos) (tC (.str z)) := by
  obtain ⟨t, hm⟩ := hm
  exact pe_glob hg hm ⟨t, rfl⟩ hd
theorem pe_gref {a : Addr} (hm : X.mg x = some (.ref a)) (hg : Gl X x := by rfl) (hd : (x == ("__debug__" : Str)) = false := by decide) : PE X (.Name x pos) (tC (.ref a)) := pe_glob hg hm rfl hd
theorem pe_gty {n : String} (hm : X.mg x = none) (hv : bootBuiltins x = some (.type n)) (hg : Gl X x := by rfl) (hn : x ≠ "__name__" := by decide) (hd : (x == ("__debug__" : Str)) = false := by decide) : PE X (.Name x pos) (tC (.ty n)) := pe_bltn hg hm hv rfl hn hd
end
/-! ### a def -/
section
variable {P : Program} {w : World} {K : PySem.W.Frag} {mg : Str → Option Value} {base : Heap} {x qual : Str} {st : Stmt} {f : Addr} {N ps : List Str} {k : Nat} {sp : Sp} {dvs : List V}
abbrev DefAt (K : PySem.W.Frag) (x qual : Str) (st : Stmt) (dvs : List V) (f : Addr) : Prop := ∃ fd, FunD K x qual (defArgs st) (defBody st) (defScope st) dvs [] f fd
abbrev cxD (P : Program) (w : World) (K : PySem.W.Frag) (mg : Str → Option Value) (base : Heap) (N : List Str) (qual : Str) (st : Stmt) (f : Addr) (cdv : Value) (A : Around) (outer : List Env) (s : Shared) (H : Hp) (E : XK) : Cx :=
  cxOf (L2.CX P w) P w K mg base N qual (defScope st) f cdv A outer s H E
theorem cxD_takes {cdv : Value} {A : Around} {outer : List Env} {s : Shared} {H : Hp} {E : XK} : Takes (cxD P w K mg base N qual st f cdv A outer s H E) (fun cls d _ H' => E cls d H') := takes_of rfl rfl rfl rfl
theorem cxD_passes {cdv : Value} {A : Around} {outer : List Env} {s : Shared} {H : Hp} {E : XK} : PassesOwn (model P w) (A.deeper (envOfC qual (defScope st) s.heap.objs.size f cdv)) (envOfC qual (defScope st) s.heap.objs.size f cdv) (cxD P w K mg base N qual st f cdv A outer s H E).xe :=
  passes_of (X := cxD P w K mg base N qual st f cdv A outer s H E) rfl
/-- a def without defaults, by its body's reading T -/
theorem cb_of {T : XK → TS} (F : DefAt K x qual st [] f) (S : FnScope N ps (defScope st)) (len : ∀ vs H Q E, sp vs H Q E → vs.length = ps.length)
    (hb : ∀ (kV doc pm : Value) (an : Option Addr) (cdv ct : Value) (us : List Value), us.length = ps.length → bindArgs (PySem.W.fnOf x qual (defArgs st) (defBody st) (defScope st) .none kV doc pm an cdv ct) ⟨us, []⟩ = pure (ps.zip us))
    (body : ∀ (cdv : Value) (A : Around) (outer : List Env) (s : Shared) (H : Hp) (E : XK), Room k (A.deeper (envOfC qual (defScope st) s.heap.objs.size f cdv)) → PSs (cxD P w K mg base N qual st f cdv A outer s H E) (defBody st) (T E))
    (read : ∀ vs H Q E, sp vs H Q E → T E { nx := fun _ H' => Q .non H', rt := Q } (start N vs) H) : Cb P w K mg base (k + 1) f ps [] sp := by
  obtain ⟨fd, F⟩ := F
  exact ⟨⟨fd, [], F.ok S len fun cdv A outer s H vs Q E hr h => ⟨T E, body cdv A outer s H E hr, read vs H Q E h⟩, F.bindsN hb, .nil⟩, F.kp⟩
theorem Cb.mono {j : Nat} (B : Cb P w K mg base j f ps dvs sp) (h : j ≤ k) : Cb P w K mg base k f ps dvs sp := by
  obtain ⟨⟨fd, ds, F, r⟩, kp⟩ := B
  exact ⟨⟨fd, ds, F.mono h, r⟩, kp⟩
theorem Cb.imp {sp' : Sp} (B : Cb P w K mg base k f ps dvs sp) (h : ∀ vs H Q E, sp' vs H Q E → sp vs H Q E) : Cb P w K mg base k f ps dvs sp' := by
  obtain ⟨⟨fd, ds, F, r⟩, kp⟩ := B
  exact ⟨⟨fd, ds, F.imp h, r⟩, kp⟩
end
/-! Fo, steps: one for each form of a reading; what is left is what the form asks. -/
/-! ### lists of slots -/
inductive SetR : St → Nat → Option V → St → Prop
  | zero {a x : Option V} {l : St} : SetR (a :: l) 0 x (x :: l)
  | succ {a x : Option V} {l l' : St} {i : Nat} : SetR l i x l' → SetR (a :: l) (i + 1) x (a :: l')
theorem SetR.eq {σ σ' : St} {i : Nat} {x : Option V} (h : SetR σ i x σ') : σ.set i x = σ' := by
  induction h with
  | zero => rfl
  | succ _ ih => rw [List.set_cons_succ, ih]
/-- n at the slots with v put in place i -/
def asgn (i : Nat) (n : St → Hp → Prop) (v : V) (σ : St) (H : Hp) : Prop := n (σ.set i (some v)) H
def lstK (vs : List V) (H : Hp) (Q : VK) : Prop := vs.length ≤ sizeLine ∧ ∀ p, H p = none → Q (.ref p) (upd H p (.lst vs))
def tupK (vs : List V) (H : Hp) (Q : VK) : Prop := vs.length ≤ sizeLine ∧ ∀ p, H p = none → Q (.ref p) (upd H p (.tup vs))
def fldK (K : PySem.W.Frag) (f : Str) (x : V) (H : Hp) (Q : VK) : Prop := ∃ a C dx fs v, x = .ref a ∧ H a = some (.ins C dx fs) ∧ Cls K C ∧ NoAttr K C f ∧ fs.lookup f = some v ∧ Q v H
def stoK (K : PySem.W.Frag) (f : Str) (y x : V) (H : Hp) (n : Hp → Prop) : Prop := ∃ a C dx fs, x = .ref a ∧ H a = some (.ins C dx fs) ∧ Cls K C ∧ NoAttr K C f ∧ fs.length < 1000 ∧ n (upd H a (.ins C dx (putF f y fs)))
section
variable {K : PySem.W.Frag} {σ σ' : St} {H H' : Hp} {Q : VK} {R : Bool → Hp → Prop} {S : List V → Hp → Prop} {te ta tb tc : TE} {t u : TS} {tt tu : TT} {tl : TA} {x y v : V} {i j : Int} {k b : Bool} {r r' : R2} {z z' : Str}
variable {n : St → Hp → Prop} {rt : VK} {bk ct : St → Hp → Prop} {m : Nat} {p q : Addr} {xs ys vs : List V}
/-! ### expressions -/
theorem g_var (h : σ[m]? = some (some v)) (q : Q v H) : tVar m σ H Q := ⟨v, h, q⟩
theorem g_c (q : Q v H) : tC v σ H Q := q
theorem g_op (q : ta σ H fun x H1 => tb σ H1 fun y H2 => r x y H2 Q) : tOp r ta tb σ H Q := q
theorem g_un {r : V → Hp → VK → Prop} (q : ta σ H fun x H1 => r x H1 Q) : tUn r ta σ H Q := q
theorem g_cb {r : List V → Hp → VK → Prop} (q : tl σ H fun vs H1 => r vs H1 Q) : tCB r tl σ H Q := q
theorem g_nil (q : S [] H) : tNil σ H S := q
theorem g_cons {tr : TA} (q : te σ H fun x H1 => tr σ H1 fun xs H2 => S (x :: xs) H2) : tCons te tr σ H S := q
theorem g_bm {T : String} {r : V → List V → Hp → VK → Prop} (q : te σ H fun x H1 => tyV K T x H1 ∧ tl σ H1 fun xs H2 => r x xs H2 Q) : tBM K T r te tl σ H Q := q
theorem g_bm0 {T : String} {r : V → List V → Hp → VK → Prop} (q : te σ H fun x H1 => tyV K T x H1 ∧ r x [] H1 Q) : tBM0 K T r te σ H Q := q
theorem g_lst (q : tl σ H fun vs H1 => lstK vs H1 Q) : tLst tl σ H Q := q
theorem g_tup (q : tl σ H fun vs H1 => tupK vs H1 Q) : tTup tl σ H Q := q
theorem g_fld {f : Str} (q : te σ H fun x H1 => fldK K f x H1 Q) : tFld K te f σ H Q := q
theorem g_fun {sp : Sp} {dvs : List V} {E : St → XK} (q : tl σ H fun vs H1 => sp (vs ++ dvs) H1 Q (E σ)) : tFun sp dvs E tl σ H Q := q
theorem g_new {C : Addr} {sp : Sp} {dvs : List V} {E : St → XK} (q : tl σ H fun vs H1 => ∀ x dx, H1 x = none → H1 dx = none → dx ≠ x → sp (.ref x :: (vs ++ dvs)) (upd (upd H1 dx (.own x)) x (.ins C dx [])) (fun v H2 => v = .non ∧ Q (.ref x) H2) (E σ)) :
    tNew C sp dvs E tl σ H Q := q
theorem g_mth {f : Str} {ms : Addr → Sp → Prop} {E : St → XK} (q : te σ H fun x H1 => ∃ a C dx fs sp, x = .ref a ∧ H1 a = some (.ins C dx fs) ∧ ms C sp ∧ fs.lookup f = none ∧ tl σ H1 fun vs H2 => sp (x :: vs) H2 Q (E σ)) : tMth f ms E te tl σ H Q := q
theorem g_andV (q : ta σ H fun x H1 => ∃ c, x = .bl c ∧ if c = true then tb σ H1 Q else Q (.bl false) H1) : tAndV ta tb σ H Q := q
theorem g_orV (q : ta σ H fun x H1 => ∃ c, x = .bl c ∧ if c = true then Q (.bl true) H1 else tb σ H1 Q) : tOrV ta tb σ H Q := q
theorem g_notV (q : te σ H fun x H1 => ∃ c, x = .bl c ∧ Q (.bl (!c)) H1) : tNotV te σ H Q := q
theorem g_chain (q : ta σ H fun x H1 => tb σ H1 fun y H2 => r x y H2 fun z H3 => ∃ k, z = .bl k ∧ if k = true then tc σ H3 fun w H4 => r' y w H4 Q else Q (.bl false) H3) : tChain r r' ta tb tc σ H Q := q
theorem g_sl {rr : V → Option Int → Option Int → Hp → VK → Prop} {to1 to2 : TO} (q : te σ H fun x H1 => to1 σ H1 fun a H2 => to2 σ H2 fun b H3 => rr x a b H3 Q) : tSl rr te to1 to2 σ H Q := q
theorem g_part {S : Option Int → Hp → Prop} (q : te σ H fun x H1 => ∃ i, x = .int i ∧ S (some i) H1) : tPart te σ H S := q
theorem g_nopart {S : Option Int → Hp → Prop} (q : S none H) : tNoPart σ H S := q
theorem g_bits (q : te σ H fun x H1 => ∃ i, x = .int i ∧ Q (.int (Builtin.Int.intBits i : Nat)) H1) : tBits te σ H Q := q
theorem g_dget (q : ta σ H fun x H1 => tb σ H1 fun y H2 => ∃ a v, x = .ref a ∧ DGet H2 a y (some v) ∧ Q v H2) : tDGet ta tb σ H Q := q
theorem g_din (q : ta σ H fun y H1 => tb σ H1 fun x H2 => ∃ a o, x = .ref a ∧ DGet H2 a y o ∧ Q (.bl o.isSome) H2) : tDIn ta tb σ H Q := q
theorem g_dnotin (q : ta σ H fun y H1 => tb σ H1 fun x H2 => ∃ a o, x = .ref a ∧ DGet H2 a y o ∧ Q (.bl (!o.isSome)) H2) : tDNotIn ta tb σ H Q := q
/-! ### values that are known -/
theorem g_int (q : ∀ w, w = i → ∃ j, V.int w = .int j ∧ Q (.int j) H) : ∃ j, V.int i = .int j ∧ Q (.int j) H := q i rfl
theorem g_eint {T : Int → Prop} (q : T i) : ∃ j, V.int i = .int j ∧ T j := ⟨i, rfl, q⟩
theorem g_ebl {T : Bool → Prop} (q : T b) : ∃ j, V.bl b = .bl j ∧ T j := ⟨b, rfl, q⟩
theorem g_plus (q : Q (.int (i + j)) H) : rPlus K (.int i) (.int j) H Q := .inl ⟨i, j, rfl, rfl, q⟩
theorem g_cat (hx : H p = some (.lst xs)) (hy : H m = some (.lst ys)) (hl : xs.length + ys.length ≤ sizeLine) (q : ∀ l, H l = none → Q (.ref l) (upd H l (.lst (xs ++ ys)))) : rPlus K (.ref p) (.ref m) H Q := .inr (.inl ⟨p, m, xs, ys, rfl, rfl, hx, hy, hl, q⟩)
theorem g_plusS (hl : z.length + z'.length ≤ sizeLine) (q : Q (.str (z ++ z')) H) : rPlus K (.str z) (.str z') H Q := .inr (.inr (.inl ⟨z, z', rfl, rfl, hl, q⟩))
theorem g_minus (q : Q (.int (i - j)) H) : rMinus (.int i) (.int j) H Q := ⟨i, j, rfl, rfl, q⟩
theorem g_times (h : IntMulOk i j) (q : Q (.int (i * j)) H) : rTimes (.int i) (.int j) H Q := .inl ⟨i, j, rfl, rfl, h, q⟩
theorem g_rep (hx : H p = some (.lst xs)) (h1 : -(2 ^ 63) ≤ i) (h2 : i < 2 ^ 63) (hl : xs.length * i.toNat ≤ sizeLine) (q : ∀ l, H l = none → Q (.ref l) (upd H l (.lst (List.replicate i.toNat xs).flatten))) : rTimes (.ref p) (.int i) H Q :=
  .inr ⟨p, i, xs, rfl, rfl, hx, h1, h2, hl, q⟩
theorem g_floor (h : CDivW i j) (q : Q (.int (i / j)) H) : rFloor (.int i) (.int j) H Q := ⟨i, j, rfl, rfl, h, q⟩
theorem g_rest (h : 0 < j) (q : Q (.int (i % j)) H) : rRest (.int i) (.int j) H Q := ⟨i, j, rfl, rfl, h, q⟩
theorem g_pow (h : CPow i j) (q : Q (.int (i ^ j.toNat)) H) : L2.rI CPow (fun i j => .int (i ^ j.toNat)) (.int i) (.int j) H Q := ⟨i, j, rfl, rfl, h, q⟩
theorem g_lsh (h : CShl i j) (q : Q (.int (i * 2 ^ j.toNat)) H) : rLsh (.int i) (.int j) H Q := ⟨i, j, rfl, rfl, h, q⟩
theorem g_rsh (h : 0 ≤ j) (q : Q (.int (i / 2 ^ j.toNat)) H) : rRsh (.int i) (.int j) H Q := ⟨i, j, rfl, rfl, h, q⟩
theorem g_neg (q : Q (.int (-i)) H) : rNeg (.int i) H Q := ⟨i, rfl, q⟩
theorem g_lt (q : Q (.bl (decide (i < j))) H) : iLt (.int i) (.int j) H Q := ⟨i, j, rfl, rfl, q⟩
theorem g_le (q : Q (.bl (decide (i ≤ j))) H) : rLe (.int i) (.int j) H Q := .inl ⟨i, j, rfl, rfl, q⟩
theorem g_leS (q : Q (.bl (!decide (z'.cps.toList < z.cps.toList))) H) : rLe (.str z) (.str z') H Q := .inr ⟨z, z', rfl, rfl, q⟩
theorem g_gt (q : Q (.bl (decide (j < i))) H) : iGt (.int i) (.int j) H Q := ⟨i, j, rfl, rfl, q⟩
theorem g_ge (q : Q (.bl (decide (j ≤ i))) H) : iGe (.int i) (.int j) H Q := ⟨i, j, rfl, rfl, q⟩
theorem dec_int (i j : Int) : decide (V.int i = V.int j) = decide (i = j) := by
  by_cases h : i = j
  · rw [decide_eq_true h, decide_eq_true (by rw [h])]
  · rw [decide_eq_false h, decide_eq_false (fun e => h (V.int.inj e))]
theorem dec_str (i j : Str) : decide (V.str i = V.str j) = decide (i = j) := by
  by_cases h : i = j
  · rw [decide_eq_true h, decide_eq_true (by rw [h])]
  · rw [decide_eq_false h, decide_eq_false (fun e => h (V.str.inj e))]
theorem g_same (q : Q (.bl (decide (i = j))) H) : rSame K (.int i) (.int j) H Q := .inl ⟨rfl, by rw [dec_int]; exact q⟩
theorem g_diff (q : Q (.bl (!decide (i = j))) H) : rDiff K (.int i) (.int j) H Q := .inl ⟨rfl, by rw [dec_int]; exact q⟩
theorem g_sameS (q : Q (.bl (decide (z = z'))) H) : rSame K (.str z) (.str z') H Q := .inl ⟨rfl, by rw [dec_str]; exact q⟩
theorem g_diffS (q : Q (.bl (!decide (z = z'))) H) : rDiff K (.str z) (.str z') H Q := .inl ⟨rfl, by rw [dec_str]; exact q⟩
theorem g_isno (q : Q (.bl (decide (x = .non))) H) : rIsNo x .non H Q := ⟨rfl, q⟩
theorem g_notno (q : Q (.bl (!decide (x = .non))) H) : rNotNo x .non H Q := ⟨rfl, q⟩
theorem g_lenL (h : SqL K H p xs) (q : Q (.int (xs.length : Int)) H) : rLength K [.ref p] H Q := ⟨.ref p, xs.length, rfl, .inl ⟨xs, h, rfl⟩, q⟩
theorem g_lenT (h : SqT K H p xs) (q : Q (.int (xs.length : Int)) H) : rLength K [.ref p] H Q := ⟨.ref p, xs.length, rfl, .inr ⟨xs, h, rfl⟩, q⟩
theorem g_lenS (h : z.length ≤ sizeLine) (q : Q (.int (z.length : Int)) H) : rLength K [.str z] H Q := ⟨.str z, z.length, rfl, ⟨h, rfl⟩, q⟩
theorem g_listL (h : SqL K H p xs) (q : ∀ l, H l = none → Q (.ref l) (upd H l (.lst xs))) : rListOf K [.ref p] H Q := ⟨p, xs, rfl, .inl h, q⟩
theorem g_listT (h : SqT K H p xs) (q : ∀ l, H l = none → Q (.ref l) (upd H l (.lst xs))) : rListOf K [.ref p] H Q := ⟨p, xs, rfl, .inr h, q⟩
theorem g_tupleL (h : SqL K H p xs) (q : ∀ l, H l = none → Q (.ref l) (upd H l (.tup xs))) : rTupleOf K [.ref p] H Q := ⟨p, xs, rfl, .inl ⟨h, q⟩⟩
theorem g_max2 (q : Q (.int (if j > i then j else i)) H) : rGreatest K [.int i, .int j] H Q := .inl ⟨i, j, rfl, q⟩
theorem g_min2 (q : Q (.int (if j < i then j else i)) H) : rLeast K [.int i, .int j] H Q := .inl ⟨i, j, rfl, q⟩
theorem g_intI (q : Q (.int i) H) : rInt1 [.int i] H Q := .inl ⟨i, rfl, q⟩
theorem g_intB (q : Q (.int (if b then 1 else 0)) H) : rInt1 [.bl b] H Q := .inr ⟨b, rfl, q⟩
theorem g_all {bs : List Bool} (h : SqL K H p (bs.map V.bl)) (q : Q (.bl (bs.all id)) H) : rAll K [.ref p] H Q := ⟨p, bs, rfl, h, q⟩
theorem g_any {bs : List Bool} (h : SqL K H p (bs.map V.bl)) (q : Q (.bl (bs.any id)) H) : rAny K [.ref p] H Q := ⟨p, bs, rfl, h, q⟩
theorem g_sum {ns : List Int} (h : SqL K H p (ns.map V.int)) (q : Q (.int ns.sum) H) : rSum K [.ref p] H Q := ⟨p, ns, rfl, h, q⟩
theorem g_ixL (h : SqL K H p xs) (ha : atI xs i = some v) (q : Q v H) : rIx K (.ref p) (.int i) H Q := .inl ⟨p, xs, i, v, rfl, rfl, h, ha, q⟩
theorem g_ixT (h : SqT K H p xs) (ha : atI xs i = some v) (q : Q v H) : rIx K (.ref p) (.int i) H Q := .inr (.inl ⟨p, xs, i, v, rfl, rfl, h, ha, q⟩)
theorem g_ixS {c : Nat} (hl : z.length ≤ sizeLine) (ha : atI z.cps.toList i = some c) (q : Q (.str ⟨#[c]⟩) H) : rIx K (.str z) (.int i) H Q := .inr (.inr ⟨z, i, c, rfl, rfl, hl, ha, q⟩)
theorem g_slL {lo hi : Option Int} (h : SqL K H p xs) (q : ∀ l, H l = none → Q (.ref l) (upd H l (.lst (cutV xs lo hi)))) : rSlL K (.ref p) lo hi H Q := ⟨p, xs, rfl, h, q⟩
theorem g_isi {s : Str} {tn cn : String} (ht : TyX K H x (.type tn)) (hk : kitB tn cn = some b) (q : Q (.bl b) H) : rIsi2 K [x, .ty cn] H Q := .inl ⟨x, .ty cn, .type tn, .type cn, b, rfl, .ty cn, ht, kit_ty hk, q⟩
theorem g_append (h : H p = some (.lst xs)) (hl : xs.length < sizeLine) (q : Q .non (upd H p (.lst (xs ++ [y])))) : rAppend (.ref p) [y] H Q := ⟨p, xs, y, rfl, rfl, h, hl, q⟩
theorem g_reverse (h : H p = some (.lst xs)) (q : Q .non (upd H p (.lst xs.reverse))) : rReverse (.ref p) [] H Q := ⟨p, xs, rfl, rfl, h, q⟩
theorem g_clear (h : H p = some (.lst xs)) (q : Q .non (upd H p (.lst []))) : rClear (.ref p) [] H Q := ⟨p, xs, rfl, rfl, h, q⟩
theorem g_tyL {A : Prop} (h : SqL K H p xs) (q : A) : tyV K "list" (.ref p) H ∧ A := ⟨.inl ⟨rfl, xs, h⟩, q⟩
theorem g_tyS {A : Prop} (q : A) : tyV K "str" (.str z) H ∧ A := ⟨rfl, q⟩
theorem g_lstK (hl : vs.length ≤ sizeLine) (q : ∀ p, H p = none → Q (.ref p) (upd H p (.lst vs))) : lstK vs H Q := ⟨hl, q⟩
theorem g_tupK (hl : vs.length ≤ sizeLine) (q : ∀ p, H p = none → Q (.ref p) (upd H p (.tup vs))) : tupK vs H Q := ⟨hl, q⟩
theorem g_fldK {f : Str} {C dx : Addr} {fs : List (Str × V)} (h : H p = some (.ins C dx fs)) (c : Cls K C) (na : NoAttr K C f) (hl : fs.lookup f = some v) (q : Q v H) : fldK K f (.ref p) H Q := ⟨p, C, dx, fs, v, rfl, h, c, na, hl, q⟩
theorem g_stoK {f : Str} {C dx : Addr} {fs : List (Str × V)} {n : Hp → Prop} (h : H p = some (.ins C dx fs)) (c : Cls K C) (na : NoAttr K C f) (hl : fs.length < 1000) (q : n (upd H p (.ins C dx (putF f y fs)))) : stoK K f y (.ref p) H n := ⟨p, C, dx, fs, rfl, h, c, na, hl, q⟩
/-! ### tests -/
theorem g_test (q : te σ H fun x H1 => ∃ c, x = .bl c ∧ R c H1) : tTest te σ H R := q
theorem g_B (q : te σ H fun x H1 => ∃ c, x = .bl c ∧ R c H1) : tB te σ H R := q
theorem g_tru (q : te σ H fun x H1 => ∃ c, TruV K x H1 c ∧ R c H1) : tTru K te σ H R := q
theorem g_truB {T : Bool → Prop} (q : T b) : ∃ c, TruV K (.bl b) H c ∧ T c := ⟨b, rfl, q⟩
theorem g_and (q : tt σ H fun c H1 => if c = true then tu σ H1 R else R false H1) : tAnd tt tu σ H R := q
theorem g_or (q : tt σ H fun c H1 => if c = true then R true H1 else tu σ H1 R) : tOr tt tu σ H R := q
theorem g_not (q : tt σ H fun c H1 => R (!c) H1) : tNot tt σ H R := q
theorem g_ifT {A B : Prop} (q : A) : if true = true then A else B := iteT q
theorem g_ifF {A B : Prop} (q : B) : if false = true then A else B := iteF q
theorem g_ifNT {A B : Prop} (q : B) : if (!true) = true then A else B := iteF q
theorem g_ifNF {A B : Prop} (q : A) : if (!false) = true then A else B := iteT q
theorem dif {c A B : Prop} [Decidable c] (h1 : c → A) (h2 : ¬ c → B) : if decide c = true then A else B := by
  by_cases h : c
  · rw [decide_eq_true h]; exact iteT (h1 h)
  · rw [decide_eq_false h]; exact iteF (h2 h)
theorem difN {c A B : Prop} [Decidable c] (h1 : ¬ c → A) (h2 : c → B) : if (!decide c) = true then A else B := by
  by_cases h : c
  · rw [decide_eq_true h]; exact iteF (h2 h)
  · rw [decide_eq_false h]; exact iteT (h1 h)
theorem difB {A B : Prop} (h1 : b = true → A) (h2 : b = false → B) : if b = true then A else B := by
  cases b with
  | true => exact iteT (h1 rfl)
  | false => exact iteF (h2 rfl)
theorem difNB {A B : Prop} (h1 : b = false → A) (h2 : b = true → B) : if (!b) = true then A else B := by
  cases b with
  | true => exact iteF (h2 rfl)
  | false => exact iteT (h1 rfl)
theorem difY {c A B : Prop} [Decidable c] (h : c) (q : A) : if decide c = true then A else B := by rw [decide_eq_true h]; exact iteT q
theorem difX {c A B : Prop} [Decidable c] (h : ¬ c) (q : B) : if decide c = true then A else B := by rw [decide_eq_false h]; exact iteF q
/-! ### statements -/
theorem g_seq (q : t ⟨u ⟨n, rt, bk, ct⟩, rt, bk, ct⟩ σ H) : tSeq t u ⟨n, rt, bk, ct⟩ σ H := q
theorem g_next (q : n σ H) : tNext ⟨n, rt, bk, ct⟩ σ H := q
theorem g_drop (q : te σ H fun _ H1 => n σ H1) : tDrop te ⟨n, rt, bk, ct⟩ σ H := q
theorem g_ret (q : te σ H rt) : tRet te ⟨n, rt, bk, ct⟩ σ H := q
theorem g_retN (q : rt .non H) : tRetN ⟨n, rt, bk, ct⟩ σ H := q
theorem g_asg (q : te σ H fun v H1 => asgn m n v σ H1) : tAsg te (gName m) ⟨n, rt, bk, ct⟩ σ H := q
theorem g_asgn (r : SetR σ m (some v) σ') (q : n σ' H) : asgn m n v σ H := by unfold asgn; rw [r.eq]; exact q
theorem g_if (q : tt σ H fun c H1 => if c = true then t ⟨n, rt, bk, ct⟩ σ H1 else u ⟨n, rt, bk, ct⟩ σ H1) : tIfS tt t u ⟨n, rt, bk, ct⟩ σ H := q
theorem g_aug {ti : TIp} (hx : σ[m]? = some (some x)) (q : te σ H fun y H1 => ti x y H1 fun z H2 => asgn m n z σ H2) : tAug m te ti ⟨n, rt, bk, ct⟩ σ H := ⟨x, hx, q⟩
theorem g_ip {f : Int → Int → Int} (q : Q (.int (f i j)) H) : ipI f (.int i) (.int j) H Q := ⟨i, j, rfl, rfl, q⟩
theorem g_sto {f : Str} (q : tb σ H fun y H1 => ta σ H1 fun x H2 => stoK K f y x H2 fun H3 => n σ H3) : sFld K ta tb f ⟨n, rt, bk, ct⟩ σ H := q
theorem g_rz {W : WX} {C : Addr} (q : W (.ref C) none σ H) : tRz W C ⟨n, rt, bk, ct⟩ σ H := q
/-! ### promises by the number of arguments -/
end
def on1 (F : V → Hp → VK → XK → Prop) : Sp := fun vs H Q E => ∃ a, vs = [a] ∧ F a H Q E
def on2 (F : V → V → Hp → VK → XK → Prop) : Sp := fun vs H Q E => ∃ a b, vs = [a, b] ∧ F a b H Q E
def on3 (F : V → V → V → Hp → VK → XK → Prop) : Sp := fun vs H Q E => ∃ a b c, vs = [a, b, c] ∧ F a b c H Q E
def on4 (F : V → V → V → V → Hp → VK → XK → Prop) : Sp := fun vs H Q E => ∃ a b c d, vs = [a, b, c, d] ∧ F a b c d H Q E
def on5 (F : V → V → V → V → V → Hp → VK → XK → Prop) : Sp := fun vs H Q E => ∃ a b c d e, vs = [a, b, c, d, e] ∧ F a b c d e H Q E
section
variable {H : Hp} {Q : VK} {E : XK} {a b c d e : V}
theorem g_on1 {F : V → Hp → VK → XK → Prop} (q : F a H Q E) : on1 F ([a] ++ []) H Q E := ⟨a, rfl, q⟩
theorem g_on2 {F : V → V → Hp → VK → XK → Prop} (q : F a b H Q E) : on2 F ([a, b] ++ []) H Q E := ⟨a, b, rfl, q⟩
theorem g_on3 {F : V → V → V → Hp → VK → XK → Prop} (q : F a b c H Q E) : on3 F ([a, b, c] ++ []) H Q E := ⟨a, b, c, rfl, q⟩
theorem g_on4 {F : V → V → V → V → Hp → VK → XK → Prop} (q : F a b c d H Q E) : on4 F ([a, b, c, d] ++ []) H Q E := ⟨a, b, c, d, rfl, q⟩
end
/-! ### what stands where -/
section
variable {K : PySem.W.Frag} {H H1 : Hp} {a p : Addr} {o u : HO} {xs : List V}
theorem lk_new (h : H a = some o) (hp : H p = none) : upd H p u a = some o := by rw [upd_ne (ne_of_none h hp)]; exact h
theorem lk_mut (hn : a ≠ p) (h : H a = some o) : upd H p u a = some o := by rw [upd_ne hn]; exact h
theorem sq_new (h : SqL K H a xs) (hp : H p = none) : SqL K (upd H p u) a xs := by
  rcases h with (h | ⟨v, h⟩) | h
  · exact .inl (.inl (lk_new h hp))
  · exact .inl (.inr ⟨v, lk_new h hp⟩)
  · exact .inr h
theorem sq_mut (hn : a ≠ p) (h : SqL K H a xs) : SqL K (upd H p u) a xs := by
  rcases h with (h | ⟨v, h⟩) | h
  · exact .inl (.inl (lk_mut hn h))
  · exact .inl (.inr ⟨v, lk_mut hn h⟩)
  · exact .inr h
theorem st_new (h : SqT K H a xs) (hp : H p = none) : SqT K (upd H p u) a xs := by
  rcases h with (h | ⟨v, h⟩) | h
  · exact .inl (.inl (lk_new h hp))
  · exact .inl (.inr ⟨v, lk_new h hp⟩)
  · exact .inr h
theorem st_mut (hn : a ≠ p) (h : SqT K H a xs) : SqT K (upd H p u) a xs := by
  rcases h with (h | ⟨v, h⟩) | h
  · exact .inl (.inl (lk_mut hn h))
  · exact .inl (.inr ⟨v, lk_mut hn h⟩)
  · exact .inr h
theorem sq_of (h : H a = some (.lst xs)) : SqL K H a xs := .inl (.inl h)
theorem stt_of (h : H a = some (.tup xs)) : SqT K H a xs := .inl (.inl h)
theorem Same.tup (e : Same H H1) (h : SqT K H a xs) : SqT K H1 a xs := by
  rcases h with (h | ⟨v, h⟩) | h
  · exact .inl (.inl (e _ _ h))
  · exact .inl (.inr ⟨v, e _ _ h⟩)
  · exact .inr h
theorem same_new (e : Same H H1) (hp : H1 p = none) : Same H (upd H1 p u) := fun b x h => lk_new (e b x h) hp
theorem same_mut (e : Same H H1) (hp : H p = none) : Same H (upd H1 p u) := fun b x h => lk_mut (ne_of_none h hp) (e b x h)
/-- a sequence's place is another than a mutable thing's -/
theorem sq_ne (h : SqL K H a xs) (hK : ∀ o, K.lookup a = some o → H p = none → a ≠ p) (hp : H p = none) : a ≠ p := by
  rcases h with (h | ⟨v, h⟩) | ⟨o, _, _, h, _⟩
  · exact ne_of_none h hp
  · exact ne_of_none h hp
  · exact hK o h hp
end
theorem lk_same {H H1 : Hp} {a : Addr} {o : HO} (e : Same H H1) (h : H a = some o) : H1 a = some o := e a o h
theorem lk_newF {H : Hp} {a p : Addr} {o u : HO} (hp : H p = none) (h : H a = some o) : upd H p u a = some o := lk_new h hp
theorem sq_newF {K : PySem.W.Frag} {H : Hp} {a p : Addr} {u : HO} {xs : List V} (hp : H p = none) (h : SqL K H a xs) : SqL K (upd H p u) a xs := sq_new h hp
theorem st_newF {K : PySem.W.Frag} {H : Hp} {a p : Addr} {u : HO} {xs : List V} (hp : H p = none) (h : SqT K H a xs) : SqT K (upd H p u) a xs := st_new h hp
theorem same_newF {H H1 : Hp} {p : Addr} {u : HO} (hp : H1 p = none) (e : Same H H1) : Same H (upd H1 p u) := same_new e hp
theorem same_mutF {H H1 : Hp} {p : Addr} {u : HO} (hp : H p = none) (e : Same H H1) : Same H (upd H1 p u) := same_mut e hp
theorem same_transF {H H1 H2 : Hp} (f : Same H1 H2) (e : Same H H1) : Same H H2 := Same.trans e f
theorem ne_of_noneF {H : Hp} {a p : Addr} {o : HO} (hp : H p = none) (h : H a = some o) : a ≠ p := ne_of_none h hp
theorem lkF {H H1 : Hp} {a : Addr} {o : HO} (h : H a = some o) (e : Same H H1) : H1 a = some o := e a o h
theorem sqF {K : PySem.W.Frag} {H H1 : Hp} {a : Addr} {xs : List V} (h : SqL K H a xs) (e : Same H H1) : SqL K H1 a xs := e.seq h
theorem sqLF {K : PySem.W.Frag} {H H1 : Hp} {a : Addr} {xs : List V} (h : H a = some (.lst xs)) (e : Same H H1) : SqL K H1 a xs := sq_of (e _ _ h)
theorem tqF {K : PySem.W.Frag} {H H1 : Hp} {a : Addr} {xs : List V} (h : SqT K H a xs) (e : Same H H1) : SqT K H1 a xs := Same.tup e h
theorem tqLF {K : PySem.W.Frag} {H H1 : Hp} {a : Addr} {xs : List V} (h : H a = some (.tup xs)) (e : Same H H1) : SqT K H1 a xs := stt_of (e _ _ h)
/-! Fo, loops and comprehensions over ints and over any values. -/
theorem map_at {α : Type} {f : α → V} {ns : List α} {i : Nat} {x : V} (h : (ns.map f)[i]? = some x) : ∃ z, ns[i]? = some z ∧ x = f z := by
  rw [List.getElem?_map] at h
  cases e : ns[i]? with
  | none => rw [e] at h; cases h
  | some z => rw [e] at h; exact ⟨z, rfl, (Option.some.inj h).symm⟩
/-- the loop over an iteration J, from the slots σ and the heap H -/
def forJ (J : It) (g : TG) (tb : TS) (n : St → Hp → Prop) (rt : VK) (σ : St) (H : Hp) : Prop :=
  ∃ W : Nat → Nat → St → Hp → Prop, (∃ m, W 0 m σ H) ∧ ∀ i m σ H, W i m σ H →
    (J.stop i H ∧ n σ H) ∨ (J.go i H ∧ ∃ N : St → Hp → Prop, (∀ σ' H', N σ' H' → ∃ m', m' < m ∧ W (i + 1) m' σ' H') ∧ ∀ x H', J.yld i H x H' → g x σ H' fun σ2 H2 => tb ⟨N, rt, n, N⟩ σ2 H2)
def forLK (K : PySem.W.Frag) (g : TG) (tb : TS) (n : St → Hp → Prop) (rt : VK) (σ : St) (x : V) (H : Hp) : Prop := ∃ a, x = .ref a ∧ (∃ xs, SqL K H a xs) ∧ forJ (Itl K a) g tb n rt σ H
def forTK (K : PySem.W.Frag) (g : TG) (tb : TS) (n : St → Hp → Prop) (rt : VK) (σ : St) (x : V) (H : Hp) : Prop := ∃ a, x = .ref a ∧ (∃ xs, SqT K H a xs) ∧ forJ (Itt K a) g tb n rt σ H
def forR1K (g : TG) (tb : TS) (n : St → Hp → Prop) (rt : VK) (σ : St) (vs : List V) (H : Hp) : Prop := ∃ j : Int, vs = [.int j] ∧ -(2 ^ 62) ≤ j ∧ j < 2 ^ 62 ∧ forJ (Itr 0 j.toNat) g tb n rt σ H
def forR2K (g : TG) (tb : TS) (n : St → Hp → Prop) (rt : VK) (σ : St) (vs : List V) (H : Hp) : Prop :=
  ∃ i j : Int, vs = [.int i, .int j] ∧ (-(2 ^ 62) ≤ i ∧ i < 2 ^ 62 ∧ -(2 ^ 62) ≤ j ∧ j < 2 ^ 62) ∧ forJ (Itr i (j - i).toNat) g tb n rt σ H
section
variable {K : PySem.W.Frag} {σ σ' : St} {H H' : Hp} {Q : VK} {te te0 : TE} {ta : TA} {tb : TS} {g : TG} {m : Nat} {n : St → Hp → Prop} {rt : VK} {bk ct : St → Hp → Prop} {a : Addr} {xs : List V} {i j : Int}
theorem g_forL (q : te σ H fun x H1 => forLK K g tb n rt σ x H1) : tFor (iList K te) g tb ⟨n, rt, bk, ct⟩ σ H := q
theorem g_forT (q : te σ H fun x H1 => forTK K g tb n rt σ x H1) : tFor (iTup K te) g tb ⟨n, rt, bk, ct⟩ σ H := q
theorem g_forR1 (q : ta σ H fun vs H1 => forR1K g tb n rt σ vs H1) : tFor (iRng1 ta) g tb ⟨n, rt, bk, ct⟩ σ H := q
theorem g_forR2 (q : ta σ H fun vs H1 => forR2K g tb n rt σ vs H1) : tFor (iRng2 ta) g tb ⟨n, rt, bk, ct⟩ σ H := q
theorem for_L (hs : SqL K H a xs) (Pv : Nat → St → Hp → Prop) (h0 : Pv 0 σ H) (hl : ∀ i σ H, Pv i σ H → SqL K H a xs)
    (ht : ∀ i x σ H, xs[i]? = some x → Pv i σ H → g x σ H fun σ2 H2 => tb ⟨Pv (i + 1), rt, n, Pv (i + 1)⟩ σ2 H2) (hd : ∀ σ H, Pv xs.length σ H → n σ H) : forLK K g tb n rt σ (.ref a) H :=
  ⟨a, rfl, ⟨xs, hs⟩, for_list (D := ⟨n, rt, fun _ _ => False, fun _ _ => False⟩) Pv h0 (fun i σ H _ p => hl i σ H p) ht hd⟩
theorem for_T (hs : SqT K H a xs) (Pv : Nat → St → Hp → Prop) (h0 : Pv 0 σ H) (hl : ∀ i σ H, Pv i σ H → SqT K H a xs)
    (ht : ∀ i x σ H, xs[i]? = some x → Pv i σ H → g x σ H fun σ2 H2 => tb ⟨Pv (i + 1), rt, n, Pv (i + 1)⟩ σ2 H2) (hd : ∀ σ H, Pv xs.length σ H → n σ H) : forTK K g tb n rt σ (.ref a) H :=
  ⟨a, rfl, ⟨xs, hs⟩, for_tup (D := ⟨n, rt, fun _ _ => False, fun _ _ => False⟩) Pv h0 (fun i σ H _ p => hl i σ H p) ht hd⟩
/-- over ints, to one name -/
theorem for_LI {ns : List Int} (hs : SqL K H a (ns.map V.int)) (Pv : Nat → St → Hp → Prop) (h0 : Pv 0 σ H) (hl : ∀ i σ H, Pv i σ H → SqL K H a (ns.map V.int))
    (ht : ∀ i z σ H, ns[i]? = some z → Pv i σ H → asgn m (fun σ2 H2 => tb ⟨Pv (i + 1), rt, n, Pv (i + 1)⟩ σ2 H2) (.int z) σ H) (hd : ∀ σ H, Pv ns.length σ H → n σ H) : forLK K (gName m) tb n rt σ (.ref a) H := by
  refine for_L hs Pv h0 hl (fun i x σ H hx p => ?_) fun σ H p => hd σ H (by rw [List.length_map] at p; exact p)
  obtain ⟨z, hz, rfl⟩ := map_at hx
  exact ht i z σ H hz p
theorem for_TI {ns : List Int} (hs : SqT K H a (ns.map V.int)) (Pv : Nat → St → Hp → Prop) (h0 : Pv 0 σ H) (hl : ∀ i σ H, Pv i σ H → SqT K H a (ns.map V.int))
    (ht : ∀ i z σ H, ns[i]? = some z → Pv i σ H → asgn m (fun σ2 H2 => tb ⟨Pv (i + 1), rt, n, Pv (i + 1)⟩ σ2 H2) (.int z) σ H) (hd : ∀ σ H, Pv ns.length σ H → n σ H) : forTK K (gName m) tb n rt σ (.ref a) H := by
  refine for_T hs Pv h0 hl (fun i x σ H hx p => ?_) fun σ H p => hd σ H (by rw [List.length_map] at p; exact p)
  obtain ⟨z, hz, rfl⟩ := map_at hx
  exact ht i z σ H hz p
theorem for_R1 {k : Nat} (hk : j = (k : Int)) (hb : k < 2 ^ 62) (Pv : Nat → St → Hp → Prop) (h0 : Pv 0 σ H)
    (ht : ∀ (i : Nat) σ H, i < k → Pv i σ H → asgn m (fun σ2 H2 => tb ⟨Pv (i + 1), rt, n, Pv (i + 1)⟩ σ2 H2) (.int (i : Int)) σ H) (hd : ∀ σ H, Pv k σ H → n σ H) : forR1K (gName m) tb n rt σ [.int j] H := by
  subst hk
  refine ⟨k, rfl, by omega, by omega, for_range (D := ⟨n, rt, fun _ _ => False, fun _ _ => False⟩) Pv h0 (fun i σ H hi p => ?_) fun σ H p => hd σ H (by simpa using p)⟩
  have e : (0 : Int) + (i : Int) = (i : Int) := by omega
  rw [e]
  exact ht i σ H (by simpa using hi) p
theorem for_R2 {k : Nat} (hk : (j - i).toNat = k) (hb : -(2 ^ 62) ≤ i ∧ i < 2 ^ 62 ∧ -(2 ^ 62) ≤ j ∧ j < 2 ^ 62) (Pv : Nat → St → Hp → Prop) (h0 : Pv 0 σ H)
    (ht : ∀ (l : Nat) σ H, l < k → Pv l σ H → asgn m (fun σ2 H2 => tb ⟨Pv (l + 1), rt, n, Pv (l + 1)⟩ σ2 H2) (.int (i + (l : Int))) σ H) (hd : ∀ σ H, Pv k σ H → n σ H) : forR2K (gName m) tb n rt σ [.int i, .int j] H := by
  subst hk
  exact ⟨i, j, rfl, hb, for_range (D := ⟨n, rt, fun _ _ => False, fun _ _ => False⟩) Pv h0 (fun l σ H hi p => ht l σ H hi p) fun σ H p => hd σ H p⟩
/-! ### comprehensions -/
def lcJ (J : It) (g : TG) (tt : TT) (te : TE) (vs : List Nat) (σ : St) (H1 : Hp) (Q : VK) : Prop :=
  ∀ D, H1 D = none → ∃ W : Nat → Nat → Hp → Prop, (∃ m, W 0 m (upd H1 D (.lst []))) ∧ ∀ i m H, W i m H →
  (J.stop i H ∧ Q (.ref D) H) ∨ (J.go i H ∧ ∃ Nx : Hp → Prop, (∀ H', Nx H' → ∃ m', m' < m ∧ W (i + 1) m' H') ∧ ∀ x H', J.yld i H x H' → g x (wipe σ vs) H' fun σ2 H2 => wipe σ2 vs = wipe σ vs ∧ tt σ2 H2 fun b H3 =>
    if b = true then te σ2 H3 fun y H4 => ∃ acc, H4 D = some (.lst acc) ∧ acc.length < sizeLine ∧ Nx (upd H4 D (.lst (acc ++ [y]))) else Nx H3)
def lcLK (K : PySem.W.Frag) (g : TG) (tt : TT) (te : TE) (vs : List Nat) (σ : St) (x : V) (H : Hp) (Q : VK) : Prop := ∃ a, x = .ref a ∧ (∃ xs, SqL K H a xs) ∧ lcJ (Itl K a) g tt te vs σ H Q
def lcTK (K : PySem.W.Frag) (g : TG) (tt : TT) (te : TE) (vs : List Nat) (σ : St) (x : V) (H : Hp) (Q : VK) : Prop := ∃ a, x = .ref a ∧ (∃ xs, SqT K H a xs) ∧ lcJ (Itt K a) g tt te vs σ H Q
def lcR1K (g : TG) (tt : TT) (te : TE) (vs : List Nat) (σ : St) (us : List V) (H : Hp) (Q : VK) : Prop := ∃ j : Int, us = [.int j] ∧ -(2 ^ 62) ≤ j ∧ j < 2 ^ 62 ∧ lcJ (Itr 0 j.toNat) g tt te vs σ H Q
theorem g_lcL {tt : TT} {vs : List Nat} (q : te0 σ H fun x H1 => lcLK K g tt te vs σ x H1 Q) : tLc (iList K te0) g tt te vs σ H Q := q
theorem g_lcT {tt : TT} {vs : List Nat} (q : te0 σ H fun x H1 => lcTK K g tt te vs σ x H1 Q) : tLc (iTup K te0) g tt te vs σ H Q := q
theorem g_lcR1 {tt : TT} {vs : List Nat} (q : ta σ H fun us H1 => lcR1K g tt te vs σ us H1 Q) : tLc (iRng1 ta) g tt te vs σ H Q := q
/-- each item's value y: f x. What the elements lay down besides stands behind -/
def eachK (te : TE) (m : Nat) (σ : St) (H1 : Hp) (D : Addr) (x y : V) : Prop :=
  ∀ H2 Q, Same H1 H2 → (∀ H3, Same H2 H3 → Q y H3) → asgn m (fun σ2 H2 => te σ2 H2 Q) x (σ.set m none) H2
theorem wipe1 (x : Option V) : wipe (((wipe σ [m])).set m x) [m] = wipe σ [m] := by
  show ((((σ.set m none)).set m x).set m none) = σ.set m none
  rw [List.set_set, List.set_set]
theorem lc_each (xs : List V) (f : V → V) (J : It) (hg : ∀ i H, i < xs.length → Same H' H → J.go i H) (hy : ∀ i H x H2, i < xs.length → Same H' H → J.yld i H x H2 → H2 = H ∧ xs[i]? = some x) (hs : ∀ H, Same H' H → J.stop xs.length H) (hl : xs.length ≤ 1000000)
    (he : ∀ x, x ∈ xs → ∀ D, eachK te m σ H' D x (f x)) (hq : ∀ D H3, H' D = none → Same H' H3 → H3 D = some (.lst (xs.map f)) → Q (.ref D) H3) : lcJ J (gName m) tYes te [m] σ H' Q := by
  intro D hD
  refine ⟨fun i k H => k = xs.length - i ∧ i ≤ xs.length ∧ Same H' H ∧ H D = some (.lst ((xs.take i).map f)), ⟨xs.length, rfl, Nat.zero_le _, same_new (Same.refl _) hD, upd_same⟩, ?_⟩
  rintro i k H ⟨rfl, hi, s, e⟩
  by_cases hlt : i < xs.length
  · refine .inr ⟨hg i H hlt s, fun H2 => Same H' H2 ∧ H2 D = some (.lst ((xs.take (i + 1)).map f)), fun H2 p => ⟨xs.length - (i + 1), by omega, rfl, hlt, p⟩, fun x H2 hx => ?_⟩
    obtain ⟨rfl, ex⟩ := hy i H x H2 hlt s hx
    have hm : x ∈ xs := List.mem_of_getElem? ex
    refine ⟨wipe1 _, ?_⟩
    have yes : ∀ {A B : Prop}, A → if true = true then A else B := fun h => iteT h
    refine yes (B := ((fun H2 => Same H' H2 ∧ H2 D = some (HO.lst ((xs.take (i + 1)).map f))) H2)) ?_
    refine he x hm D H2 _ s fun H3 s3 => ⟨(xs.take i).map f, s3 _ _ e, ?_, same_mut (Same.trans s s3) hD, ?_⟩
    · rw [List.length_map, List.length_take]
      exact Nat.lt_of_le_of_lt (Nat.le_trans (Nat.min_le_right _ _) hl) (by decide)
    · rw [upd_same, List.take_add_one, ex, List.map_append]
      rfl
  · have e1 : i = xs.length := by omega
    subst e1
    rw [List.take_length] at e
    exact .inl ⟨hs H s, hq D H hD s e⟩
theorem lc_L (hs : SqL K H a xs) (f : V → V) (hl : xs.length ≤ 1000000) (he : ∀ x, x ∈ xs → ∀ D, eachK te m σ H D x (f x)) (hq : ∀ D H3, H D = none → Same H H3 → H3 D = some (.lst (xs.map f)) → Q (.ref D) H3) :
    lcLK K (gName m) tYes te [m] σ (.ref a) H Q :=
  ⟨a, rfl, ⟨xs, hs⟩, lc_each xs f (Itl K a) (fun i H hi s => ⟨xs, xs[i], s.seq hs, List.getElem?_eq_getElem hi⟩) (fun i H x H2 _ s y => ⟨y.1, y.2 xs (s.seq hs)⟩) (fun H s => ⟨xs, s.seq hs, Nat.le_refl _⟩) hl he hq⟩
theorem lc_T (hs : SqT K H a xs) (f : V → V) (hl : xs.length ≤ 1000000) (he : ∀ x, x ∈ xs → ∀ D, eachK te m σ H D x (f x)) (hq : ∀ D H3, H D = none → Same H H3 → H3 D = some (.lst (xs.map f)) → Q (.ref D) H3) :
    lcTK K (gName m) tYes te [m] σ (.ref a) H Q :=
  ⟨a, rfl, ⟨xs, hs⟩, lc_each xs f (Itt K a) (fun i H hi s => ⟨xs, xs[i], Fo.Same.tup s hs, List.getElem?_eq_getElem hi⟩) (fun i H x H2 _ s y => ⟨y.1, y.2 xs (Fo.Same.tup s hs)⟩) (fun H s => ⟨xs, Fo.Same.tup s hs, Nat.le_refl _⟩) hl he hq⟩
/-- ints to anything -/
theorem lc_LI {ns : List Int} (hs : SqL K H a (ns.map V.int)) (f : Int → V) (hl : ns.length ≤ 1000000) (he : ∀ z, z ∈ ns → ∀ D, eachK te m σ H D (.int z) (f z)) (hq : ∀ D H3, H D = none → Same H H3 → H3 D = some (.lst (ns.map f)) → Q (.ref D) H3) :
    lcLK K (gName m) tYes te [m] σ (.ref a) H Q := by
  have key : (ns.map V.int).map (fun v => match v with | .int z => f z | _ => .non) = ns.map f := by rw [List.map_map]; rfl
  refine lc_L hs (fun v => match v with | .int z => f z | _ => .non) (by rw [List.length_map]; exact hl) (fun x hx D => ?_) (by rw [key]; exact hq)
  obtain ⟨z, hz, rfl⟩ := List.mem_map.mp hx
  exact he z hz D
theorem lc_TI {ns : List Int} (hs : SqT K H a (ns.map V.int)) (f : Int → V) (hl : ns.length ≤ 1000000) (he : ∀ z, z ∈ ns → ∀ D, eachK te m σ H D (.int z) (f z)) (hq : ∀ D H3, H D = none → Same H H3 → H3 D = some (.lst (ns.map f)) → Q (.ref D) H3) :
    lcTK K (gName m) tYes te [m] σ (.ref a) H Q := by
  have key : (ns.map V.int).map (fun v => match v with | .int z => f z | _ => .non) = ns.map f := by rw [List.map_map]; rfl
  refine lc_T hs (fun v => match v with | .int z => f z | _ => .non) (by rw [List.length_map]; exact hl) (fun x hx D => ?_) (by rw [key]; exact hq)
  obtain ⟨z, hz, rfl⟩ := List.mem_map.mp hx
  exact he z hz D
theorem lc_R1 {k : Nat} (hk : j = (k : Int)) (f : Nat → V) (hl : k ≤ 1000000) (he : ∀ i, i < k → ∀ D, eachK te m σ H D (.int (i : Int)) (f i)) (hq : ∀ D H3, H D = none → Same H H3 → H3 D = some (.lst ((List.range k).map f)) → Q (.ref D) H3) :
    lcR1K (gName m) tYes te [m] σ [.int j] H Q := by
  subst hk
  have key : ((List.range k).map fun (i : Nat) => V.int (i : Int)).map (fun v => match v with | .int z => f z.toNat | _ => .non) = (List.range k).map f := by rw [List.map_map]; rfl
  have len : ((List.range k).map fun (i : Nat) => V.int (i : Int)).length = k := by simp
  refine ⟨k, rfl, by omega, by omega, lc_each ((List.range k).map fun (i : Nat) => V.int (i : Int)) (fun v => match v with | .int z => f z.toNat | _ => .non) (Itr 0 (k : Int).toNat) (fun i H hi s => ?_) (fun i H x H2 hi s y => ?_) (fun H s => ?_) (by rw [len]; exact hl) (fun x hx D => ?_) (by rw [key]; exact hq)⟩
  · rw [len] at hi
    show i < (k : Int).toNat
    simpa using hi
  · obtain ⟨rfl, rfl⟩ := y
    rw [len] at hi
    refine ⟨rfl, ?_⟩
    rw [List.getElem?_map, List.getElem?_range hi]
    show some (V.int (i : Int)) = some (V.int (0 + (i : Int)))
    rw [Int.zero_add]
  · rw [len]
    show (k : Int).toNat ≤ k
    simp
  · obtain ⟨i, hi, rfl⟩ := List.mem_map.mp hx
    exact he i (by simpa using hi) D
end
/-! Fo, data as a whole: == of lists, tuples, texts and ints at any depth below 60, no truths within. -/
mutual
def clean : PyData → Bool
  | .none => true
  | .bool _ => false
  | .int _ => true
  | .str _ => true
  | .list xs => cleanAll xs
  | .tuple xs => cleanAll xs
  | .dict _ => false
def cleanAll : List PyData → Bool
  | [] => true
  | x :: xs => clean x && cleanAll xs
end
mutual
theorem eqv_is : ∀ d e : PyData, clean d = true → clean e = true → (PyData.eqv d e = true ↔ d = e)
  | .none, e, h, h' => by cases e <;> simp [PyData.eqv]
  | .bool b, e, h, h' => by simp [clean] at h
  | .int i, e, h, h' => by cases e <;> simp [PyData.eqv, clean] at h' ⊢
  | .str z, e, h, h' => by cases e <;> simp [PyData.eqv]
  | .list xs, e, h, h' => by
    cases e with
    | list ys =>
      simp only [clean] at h h'
      simp only [PyData.eqv, PyData.list.injEq]
      exact eqvAll_is xs ys h h'
    | _ => simp [PyData.eqv]
  | .tuple xs, e, h, h' => by
    cases e with
    | tuple ys =>
      simp only [clean] at h h'
      simp only [PyData.eqv, PyData.tuple.injEq]
      exact eqvAll_is xs ys h h'
    | _ => simp [PyData.eqv]
  | .dict _, e, h, h' => by simp [clean] at h
theorem eqvAll_is : ∀ xs ys : List PyData, cleanAll xs = true → cleanAll ys = true → (PyData.eqvAll xs ys = true ↔ xs = ys)
  | [], [], _, _ => by simp [PyData.eqvAll]
  | [], _ :: _, _, _ => by simp [PyData.eqvAll]
  | _ :: _, [], _, _ => by simp [PyData.eqvAll]
  | x :: xs, y :: ys, h, h' => by
    simp only [cleanAll, Bool.and_eq_true] at h h'
    simp only [PyData.eqvAll, Bool.and_eq_true, List.cons.injEq]
    rw [eqv_is x y h.1 h'.1, eqvAll_is xs ys h.2 h'.2]
end
/-- data that == compares as they stand -/
structure Okd (n : Nat) (d : PyData) : Prop where
  lay : d.canLay0 = true
  cl : clean d = true
  dp : d.depth ≤ n
theorem okd_non {n : Nat} : Okd n .none := ⟨rfl, by simp [clean], by simp [PyData.depth]⟩
theorem okd_int {n : Nat} {i : Int} : Okd n (.int i) := ⟨rfl, by simp [clean], by simp [PyData.depth]⟩
theorem okd_str {n : Nat} {z : Str} (h : PyData.strOk z = true) : Okd n (.str z) := ⟨by simpa [PyData.canLay0] using h, by simp [clean], by simp [PyData.depth]⟩
theorem okd_all {n : Nat} : ∀ {ds : List PyData}, (∀ d ∈ ds, Okd n d) → PyData.canLayAll0 ds = true ∧ cleanAll ds = true ∧ PyData.depthAll ds ≤ n
  | [], _ => by simp [PyData.canLayAll0, cleanAll, PyData.depthAll]
  | d :: ds, h => by
    obtain ⟨a, b, c⟩ := okd_all (ds := ds) fun e he => h e (List.mem_cons_of_mem _ he)
    have k := h d List.mem_cons_self
    refine ⟨?_, ?_, ?_⟩
    · simp [PyData.canLayAll0, k.lay, a]
    · simp [cleanAll, k.cl, b]
    · simp only [PyData.depthAll]
      have := k.dp
      omega
theorem okd_lst {n : Nat} {ds : List PyData} (h : ∀ d ∈ ds, Okd n d) : Okd (n + 1) (.list ds) := by
  obtain ⟨a, b, c⟩ := okd_all h
  exact ⟨by simpa [PyData.canLay0] using a, by simpa [clean] using b, by simp only [PyData.depth]; omega⟩
theorem okd_tup {n : Nat} {ds : List PyData} (h : ∀ d ∈ ds, Okd n d) : Okd (n + 1) (.tuple ds) := by
  obtain ⟨a, b, c⟩ := okd_all h
  exact ⟨by simpa [PyData.canLay0] using a, by simpa [clean] using b, by simp only [PyData.depth]; omega⟩
theorem okd_ints {n : Nat} {ns : List Int} : ∀ d ∈ ns.map PyData.int, Okd n d := fun d h => by
  obtain ⟨i, _, rfl⟩ := List.mem_map.mp h
  exact okd_int
theorem Okd.shaped {n : Nat} {d : PyData} (h : Okd n d) (hn : n ≤ 64) : SeqAt.shaped d = true := by
  unfold SeqAt.shaped
  rw [h.lay, Bool.true_and]
  exact decide_eq_true (Nat.le_trans h.dp hn)
section
variable {K : PySem.W.Frag} {H : Hp} {Q : VK} {x y : V} {d e : PyData} {n m : Nat} {b : Bool} {p q : Addr}
theorem g_sameD (hx : Dp K H x d) (hy : Dp K H y e) (od : Okd n d) (oe : Okd m e) (hn : n ≤ 64) (hm : m ≤ 64) (hb : b = true ↔ d = e) (k : Q (.bl b) H) : rSame K x y H Q := by
  refine .inr ⟨d, e, hx, hy, od.shaped hn, oe.shaped hm, ?_⟩
  have z : PyData.eqv d e = b := by
    rw [Bool.eq_iff_iff, eqv_is d e od.cl oe.cl, hb]
  rw [z]
  exact k
theorem g_diffD (hx : Dp K H x d) (hy : Dp K H y e) (od : Okd n d) (oe : Okd m e) (hn : n ≤ 64) (hm : m ≤ 64) (hb : b = true ↔ d = e) (k : Q (.bl (!b)) H) : rDiff K x y H Q := by
  refine .inr ⟨d, e, hx, hy, od.shaped hn, oe.shaped hm, ?_⟩
  have z : PyData.eqv d e = b := by
    rw [Bool.eq_iff_iff, eqv_is d e od.cl oe.cl, hb]
  rw [z]
  exact k
theorem dpAll_ints : ∀ {ns : List Int}, DpAll K H (ns.map V.int) (ns.map PyData.int)
  | [] => .nil
  | i :: ns => .cons (.int i) (dpAll_ints (ns := ns))
theorem map_int_inj {ns ms : List Int} : ns.map PyData.int = ms.map PyData.int ↔ ns = ms := by
  constructor
  · intro h
    induction ns generalizing ms with
    | nil => cases ms with
      | nil => rfl
      | cons => cases h
    | cons i ns ih => cases ms with
      | nil => cases h
      | cons j ms =>
        simp only [List.map_cons, List.cons.injEq, PyData.int.injEq] at h
        rw [h.1, ih h.2]
  · intro h; rw [h]
theorem g_sameLI {ns ms : List Int} (hx : SqL K H p (ns.map V.int)) (hy : SqL K H q (ms.map V.int)) (k : Q (.bl (decide (ns = ms))) H) : rSame K (.ref p) (.ref q) H Q :=
  g_sameD (n := 1) (m := 1) (.lst hx dpAll_ints) (.lst hy dpAll_ints) (okd_lst okd_ints) (okd_lst okd_ints) (by decide) (by decide) (by rw [decide_eq_true_iff, PyData.list.injEq, map_int_inj]) k
theorem g_diffLI {ns ms : List Int} (hx : SqL K H p (ns.map V.int)) (hy : SqL K H q (ms.map V.int)) (k : Q (.bl (!decide (ns = ms))) H) : rDiff K (.ref p) (.ref q) H Q :=
  g_diffD (n := 1) (m := 1) (.lst hx dpAll_ints) (.lst hy dpAll_ints) (okd_lst okd_ints) (okd_lst okd_ints) (by decide) (by decide) (by rw [decide_eq_true_iff, PyData.list.injEq, map_int_inj]) k
theorem g_sameTI {ns ms : List Int} (hx : SqT K H p (ns.map V.int)) (hy : SqT K H q (ms.map V.int)) (k : Q (.bl (decide (ns = ms))) H) : rSame K (.ref p) (.ref q) H Q :=
  g_sameD (n := 1) (m := 1) (.tup hx dpAll_ints) (.tup hy dpAll_ints) (okd_tup okd_ints) (okd_tup okd_ints) (by decide) (by decide) (by rw [decide_eq_true_iff, PyData.tuple.injEq, map_int_inj]) k
theorem g_diffTI {ns ms : List Int} (hx : SqT K H p (ns.map V.int)) (hy : SqT K H q (ms.map V.int)) (k : Q (.bl (!decide (ns = ms))) H) : rDiff K (.ref p) (.ref q) H Q :=
  g_diffD (n := 1) (m := 1) (.tup hx dpAll_ints) (.tup hy dpAll_ints) (okd_tup okd_ints) (okd_tup okd_ints) (by decide) (by decide) (by rw [decide_eq_true_iff, PyData.tuple.injEq, map_int_inj]) k
end
/-! ### slices of lists of anything -/
def cutL {α : Type} (xs : List α) (lo hi : Option Int) : List α := (xs.drop (HT.sIx xs.length 0 lo)).take (HT.sIx xs.length xs.length hi - HT.sIx xs.length 0 lo)
theorem cutV_map {α : Type} (f : α → V) (xs : List α) (lo hi : Option Int) : cutV (xs.map f) lo hi = (cutL xs lo hi).map f := by
  unfold cutV cutL
  rw [List.length_map, ← List.map_drop, ← List.map_take]
theorem cutL_len {α : Type} (xs : List α) (lo hi : Option Int) : (cutL xs lo hi).length ≤ xs.length := by
  unfold cutL
  rw [List.length_take, List.length_drop]
  omega
theorem cutL_sub {α : Type} (xs : List α) (lo hi : Option Int) {x : α} (h : x ∈ cutL xs lo hi) : x ∈ xs := List.mem_of_mem_drop (List.mem_of_mem_take h)
theorem cutL_to {α : Type} (xs : List α) (k : Nat) : cutL xs none (some (k : Int)) = xs.take k := by
  unfold cutL
  rw [HT.sIx_none, HT.sIx_nat]
  show List.take (min k xs.length - 0) xs = xs.take k
  rw [Nat.sub_zero, List.take_eq_take_iff]
  omega
theorem cutL_from {α : Type} (xs : List α) (k : Nat) : cutL xs (some (k : Int)) none = xs.drop k := by
  unfold cutL
  rw [HT.sIx_none, HT.sIx_nat]
  by_cases h : k ≤ xs.length
  · rw [Nat.min_eq_left h, List.take_of_length_le]
    rw [List.length_drop]
    omega
  · have e : min k xs.length = xs.length := by omega
    rw [e, List.drop_of_length_le (Nat.le_refl _), List.drop_of_length_le (by omega)]
    simp
theorem cutL_both {α : Type} (xs : List α) (i j : Nat) : cutL xs (some (i : Int)) (some (j : Int)) = (xs.drop i).take (j - i) := by
  unfold cutL
  rw [HT.sIx_nat, HT.sIx_nat]
  by_cases h : i ≤ xs.length
  · rw [Nat.min_eq_left h, List.take_eq_take_iff, List.length_drop]
    omega
  · have e : min i xs.length = xs.length := by omega
    rw [e, List.drop_of_length_le (Nat.le_refl _), List.drop_of_length_le (by omega)]
    simp
theorem cutL_butlast {α : Type} (xs : List α) : cutL xs none (some (-1)) = xs.dropLast := by
  unfold cutL
  rw [HT.sIx_none]
  show List.take (HT.sIx xs.length xs.length (some (-1)) - 0) xs = _
  rw [Nat.sub_zero, List.dropLast_eq_take]
  congr 1
  show (if (-1 : Int) < 0 then ((-1 : Int) + (xs.length : Int)).toNat else min (-1 : Int).toNat xs.length) = xs.length - 1
  rw [if_pos (by decide)]
  omega
theorem g_sameB {K : PySem.W.Frag} {H : Hp} {Q : VK} {p r : Addr} {bs cs : List Bool} {b : Bool} (hx : SqL K H p (bs.map V.bl)) (hy : SqL K H r (cs.map V.bl)) (s1 : SeqAt.shaped (.list (bs.map PyData.bool)) = true) (s2 : SeqAt.shaped (.list (cs.map PyData.bool)) = true)
    (h : PyData.eqv (.list (bs.map PyData.bool)) (.list (cs.map PyData.bool)) = b) (q : Q (.bl b) H) : rSame K (.ref p) (.ref r) H Q := by
  have dp : ∀ bs : List Bool, DpAll K H (bs.map V.bl) (bs.map PyData.bool) := fun bs => by
    induction bs with
    | nil => exact .nil
    | cons b bs ih => exact .cons (.bl b) ih
  exact .inr ⟨_, _, .lst hx (dp bs), .lst hy (dp cs), s1, s2, by rw [h]; exact q⟩
theorem g_diffB {K : PySem.W.Frag} {H : Hp} {Q : VK} {p r : Addr} {bs cs : List Bool} {b : Bool} (hx : SqL K H p (bs.map V.bl)) (hy : SqL K H r (cs.map V.bl)) (s1 : SeqAt.shaped (.list (bs.map PyData.bool)) = true) (s2 : SeqAt.shaped (.list (cs.map PyData.bool)) = true)
    (h : PyData.eqv (.list (bs.map PyData.bool)) (.list (cs.map PyData.bool)) = b) (q : Q (.bl (!b)) H) : rDiff K (.ref p) (.ref r) H Q := by
  have dp : ∀ bs : List Bool, DpAll K H (bs.map V.bl) (bs.map PyData.bool) := fun bs => by
    induction bs with
    | nil => exact .nil
    | cons b bs ih => exact .cons (.bl b) ih
  exact .inr ⟨_, _, .lst hx (dp bs), .lst hy (dp cs), s1, s2, by rw [h]; exact q⟩
/-! Fo, objects: fields of own classes, calls of methods, what stays when some things change. -/
class HasCls (K : PySem.W.Frag) (C : Str) : Prop where h : Cls K (He.ga K C)
class HasNo (K : PySem.W.Frag) (C f : Str) : Prop where h : NoAttr K (He.ga K C) f
/-- all but what M names stays; nothing goes -/
structure SameX (M : Addr → Prop) (H H1 : Hp) : Prop where
  kp : ∀ b o, ¬ M b → H b = some o → H1 b = some o
  dm : ∀ b, H1 b = none → H b = none
theorem upd_none {H : Hp} {a b : Addr} {o : HO} (h : upd H a o b = none) : H b = none := by
  by_cases e : b = a
  · rw [e, upd_same] at h; cases h
  · rw [upd_ne e] at h; exact h
theorem upd_upd {H : Hp} {a : Addr} {o u : HO} : upd (upd H a o) a u = upd H a u := by
  funext b
  by_cases e : b = a
  · rw [e, upd_same, upd_same]
  · rw [upd_ne e, upd_ne e, upd_ne e]
theorem SameX.refl {M : Addr → Prop} (H : Hp) : SameX M H H := ⟨fun _ _ _ h => h, fun _ h => h⟩
theorem SameX.of {M : Addr → Prop} {H H1 : Hp} (s : Same H H1) : SameX M H H1 := ⟨fun b o _ h => s b o h, fun _ h => s.free h⟩
theorem SameX.trans {M : Addr → Prop} {H H1 H2 : Hp} (s : SameX M H H1) (t : SameX M H1 H2) : SameX M H H2 := ⟨fun b o n h => t.kp b o n (s.kp b o n h), fun b h => s.dm b (t.dm b h)⟩
theorem SameX.mono {M N : Addr → Prop} {H H1 : Hp} (s : SameX M H H1) (h : ∀ b, M b → N b) : SameX N H H1 := ⟨fun b o n e => s.kp b o (fun m => n (h b m)) e, s.dm⟩
/-- what M names besides was not there -/
theorem SameX.mono' {M N : Addr → Prop} {H H1 : Hp} (s : SameX M H H1) (h : ∀ b, M b → H b ≠ none → N b) : SameX N H H1 := ⟨fun b o n e => s.kp b o (fun m => n (h b m (by rw [e]; exact fun z => nomatch z))) e, s.dm⟩
theorem SameX.mut {M : Addr → Prop} {H H1 : Hp} {a : Addr} {o : HO} (s : SameX M H H1) (h : M a) : SameX M H (upd H1 a o) :=
  ⟨fun b u n e => by rw [upd_ne (fun z : b = a => n (by rw [z]; exact h))]; exact s.kp b u n e, fun b e => s.dm b (upd_none e)⟩
theorem SameX.new {M : Addr → Prop} {H H1 : Hp} {a : Addr} {o : HO} (s : SameX M H H1) (h : H1 a = none) : SameX M H (upd H1 a o) :=
  ⟨fun b u n e => lk_new (s.kp b u n e) h, fun b e => s.dm b (upd_none e)⟩
theorem SameX.newmut {M : Addr → Prop} {H H1 : Hp} {a : Addr} {o : HO} (s : SameX M H H1) (h : H a = none) : SameX M H (upd H1 a o) :=
  ⟨fun b u n e => lk_mut (ne_of_none e h) (s.kp b u n e), fun b e => s.dm b (upd_none e)⟩
theorem SameX.same {H H1 : Hp} (s : SameX (fun _ => False) H H1) : Same H H1 := fun b o h => s.kp b o (fun z => z) h
theorem SameX.lk {M : Addr → Prop} {H H1 : Hp} {a : Addr} {o : HO} (s : SameX M H H1) (n : ¬ M a) (h : H a = some o) : H1 a = some o := s.kp a o n h
theorem SameX.seq {K : PySem.W.Frag} {M : Addr → Prop} {H H1 : Hp} {a : Addr} {xs : List V} (s : SameX M H H1) (n : ¬ M a) (h : SqL K H a xs) : SqL K H1 a xs := by
  rcases h with (h | ⟨v, h⟩) | h
  · exact .inl (.inl (s.kp _ _ n h))
  · exact .inl (.inr ⟨v, s.kp _ _ n h⟩)
  · exact .inr h
theorem SameX.tup {K : PySem.W.Frag} {M : Addr → Prop} {H H1 : Hp} {a : Addr} {xs : List V} (s : SameX M H H1) (n : ¬ M a) (h : SqT K H a xs) : SqT K H1 a xs := by
  rcases h with (h | ⟨v, h⟩) | h
  · exact .inl (.inl (s.kp _ _ n h))
  · exact .inl (.inr ⟨v, s.kp _ _ n h⟩)
  · exact .inr h
/-- what is changed was not there at first -/
theorem SameX.back {M : Addr → Prop} {H H1 H2 : Hp} (s0 : Same H H1) (s : SameX M H1 H2) (h : ∀ b, M b → H b = none) : Same H H2 := fun b o e => s.kp b o (fun m => by rw [h b m] at e; cases e) (s0 b o e)
theorem SameX.back1 {a : Addr} {H H1 H2 : Hp} (s0 : Same H H1) (s : SameX (· = a) H1 H2) (h : H a = none) : Same H H2 := s.back s0 fun b m => by rw [m]; exact h
/-- another kind of thing stands there -/
theorem ne_kind {H : Hp} {a b : Addr} {o u : HO} (h : H a = some o) (k : H b = some u) (d : o ≠ u) : a ≠ b := fun e => d (Option.some.inj (by rw [← h, ← k, e]))
/-! ### fields -/
theorem putF_nil {f : Str} {v : V} : putF f v [] = [(f, v)] := rfl
theorem putF_hit {f : Str} {v u : V} {r : List (Str × V)} : putF f v ((f, u) :: r) = (f, v) :: r := by simp [putF]
theorem putF_far {f g : Str} {v u : V} {r r' : List (Str × V)} (h : g ≠ f) (k : putF f v r = r') : putF f v ((g, u) :: r) = (g, u) :: r' := by
  subst k
  show (if g = f then _ else _) = _
  rw [if_neg h]
def mthK (m : Str) (ms : Addr → Sp → Prop) (x : V) (H : Hp) (A : Sp → Prop) : Prop := ∃ a C dx fs sp, x = .ref a ∧ H a = some (.ins C dx fs) ∧ ms C sp ∧ fs.lookup m = none ∧ A sp
def augK (K : PySem.W.Frag) (tv : TE) (rd : V → V → Hp → VK → Prop) (f : Str) (x : V) (σ : St) (H : Hp) (n : Hp → Prop) : Prop := ∃ a C dx fs v, x = .ref a ∧ H a = some (.ins C dx fs) ∧ Cls K C ∧ NoAttr K C f ∧ fs.lookup f = some v ∧
  tv σ H fun y H2 => rd v y H2 fun z H3 => ∃ dx' fs', H3 a = some (.ins C dx' fs') ∧ fs'.length < 1000 ∧ n (upd H3 a (.ins C dx' (putF f z fs')))
def putK (f : Str) (C a : Addr) (z : V) (H : Hp) (n : Hp → Prop) : Prop := ∃ dx' fs', H a = some (.ins C dx' fs') ∧ fs'.length < 1000 ∧ n (upd H a (.ins C dx' (putF f z fs')))
/-- a turn of a while loop, its measure m -/
def whK (W : Nat → St → Hp → Prop) (m : Nat) (tb : TS) (n : St → Hp → Prop) (rt : VK) (σ : St) (H : Hp) : Prop := ∃ N : St → Hp → Prop, (∀ σ' H', N σ' H' → ∃ m', m' < m ∧ W m' σ' H') ∧ tb ⟨N, rt, n, N⟩ σ H
section
variable {K : PySem.W.Frag} {σ : St} {H H' : Hp} {Q : VK} {te ta tv : TE} {tl : TA} {x y v : V} {i j : Int} {rd : V → V → Hp → VK → Prop}
variable {n : St → Hp → Prop} {nH : Hp → Prop} {rt : VK} {bk ct : St → Hp → Prop} {p dx C' : Addr} {fs fs' : List (Str × V)} {C f m : Str} {sp : Sp}
theorem g_mthd {ms : Addr → Sp → Prop} {E : St → XK} (q : te σ H fun x H1 => mthK m ms x H1 fun sp => tl σ H1 fun vs H2 => sp (x :: vs) H2 Q (E σ)) : tMth m ms E te tl σ H Q := q
theorem g_one {A : Sp → Prop} (h : H p = some (.ins C' dx fs)) (hl : fs.lookup m = none) (q : A sp) : mthK m (one C' sp) (.ref p) H A := ⟨p, C', dx, fs, sp, rfl, h, ⟨rfl, rfl⟩, hl, q⟩
theorem g_oneD {A : Sp → Prop} {dvs : List V} (h : H p = some (.ins C' dx fs)) (hl : fs.lookup m = none) (q : A (fun vs H Q E => sp (vs ++ dvs) H Q E)) : mthK m (oneD C' sp dvs) (.ref p) H A := ⟨p, C', dx, fs, _, rfl, h, ⟨rfl, rfl⟩, hl, q⟩
theorem g_orA {A : Sp → Prop} {m1 m2 : Addr → Sp → Prop} (q : mthK m m1 x H A) : mthK m (orM m1 m2) x H A := by
  obtain ⟨a, C, dx, fs, sp, e, h, k, l, q⟩ := q
  exact ⟨a, C, dx, fs, sp, e, h, .inl k, l, q⟩
theorem g_orB {A : Sp → Prop} {m1 m2 : Addr → Sp → Prop} (q : mthK m m2 x H A) : mthK m (orM m1 m2) x H A := by
  obtain ⟨a, C, dx, fs, sp, e, h, k, l, q⟩ := q
  exact ⟨a, C, dx, fs, sp, e, h, .inr k, l, q⟩
theorem g_fldA (h : H p = some (.ins (He.ga K C) dx fs)) (hl : fs.lookup f = some v) (c : HasCls K C) (o : HasNo K C f) (q : Q v H) : fldK K f (.ref p) H Q := g_fldK h c.h o.h hl q
theorem g_stoA (h : H p = some (.ins (He.ga K C) dx fs)) (hl : fs.length < 1000) (e : putF f y fs = fs') (c : HasCls K C) (o : HasNo K C f) (q : nH (upd H p (.ins (He.ga K C) dx fs'))) : stoK K f y (.ref p) H nH := by
  subst e
  exact g_stoK h c.h o.h hl q
theorem g_stoU (hl : fs.length < 1000) (e : putF f y fs = fs') (c : HasCls K C) (o : HasNo K C f) (q : nH (upd H p (.ins (He.ga K C) dx fs'))) : stoK K f y (.ref p) (upd H p (.ins (He.ga K C) dx fs)) nH := by
  refine g_stoA (C := C) upd_same hl e c o ?_
  rw [upd_upd]
  exact q
theorem g_fldaug (q : ta σ H fun x H1 => augK K tv rd f x σ H1 fun H2 => n σ H2) : sFldAug K ta tv rd f ⟨n, rt, bk, ct⟩ σ H := q
theorem g_augA (h : H p = some (.ins (He.ga K C) dx fs)) (hl : fs.lookup f = some v) (c : HasCls K C) (o : HasNo K C f) (q : tv σ H fun y H2 => rd v y H2 fun z H3 => putK f (He.ga K C) p z H3 nH) : augK K tv rd f (.ref p) σ H nH :=
  ⟨p, _, dx, fs, v, rfl, h, c.h, o.h, hl, q⟩
theorem g_putA (h : H p = some (.ins C' dx fs)) (hl : fs.length < 1000) (e : putF f y fs = fs') (q : nH (upd H p (.ins C' dx fs'))) : putK f C' p y H nH := by
  subst e
  exact ⟨dx, fs, h, hl, q⟩
theorem g_putU (hl : fs.length < 1000) (e : putF f y fs = fs') (q : nH (upd H p (.ins C' dx fs'))) : putK f C' p y (upd H p (.ins C' dx fs)) nH := by
  refine g_putA upd_same hl e ?_
  rw [upd_upd]
  exact q
theorem g_iadd (q : Q (.int (i + j)) H) : L2.rAdd (.int i) (.int j) H Q := ⟨i, j, rfl, rfl, q⟩
theorem g_isub (q : Q (.int (i - j)) H) : L2.rSub (.int i) (.int j) H Q := ⟨i, j, rfl, rfl, q⟩
theorem g_while {tc : TT} {tb : TS} (W : Nat → St → Hp → Prop) (m : Nat) (w0 : W m σ H) (hs : ∀ m σ H, W m σ H → tc σ H fun b H1 => if b = true then whK W m tb n rt σ H1 else n σ H1) : tWhile tc tb ⟨n, rt, bk, ct⟩ σ H :=
  ⟨W, ⟨m, w0⟩, fun m σ H w => hs m σ H w⟩
theorem g_whK {tb : TS} {W : Nat → St → Hp → Prop} {m : Nat} (q : tb ⟨fun σ' H' => ∃ m', m' < m ∧ W m' σ' H', rt, n, fun σ' H' => ∃ m', m' < m ∧ W m' σ' H'⟩ σ H) : whK W m tb n rt σ H := ⟨_, fun _ _ h => h, q⟩
theorem g_asgT {g : TG} (q : te σ H fun x H1 => g x σ H1 n) : tAsg te g ⟨n, rt, bk, ct⟩ σ H := q
theorem g_gname {k : Nat} (q : asgn k n v σ H) : gName k v σ H n := q
theorem g_gtup {k : Nat} {t : TGs} {xs : List V} (h : SqT K H p xs) (hl : xs.length = k) (q : t xs σ H n) : gTup K k t (.ref p) σ H n := ⟨p, xs, rfl, h, hl, q⟩
theorem g_gcons {a : TG} {t : TGs} {xs : List V} (q : a v σ H fun σ1 H1 => t xs σ1 H1 n) : gCons a t (v :: xs) σ H n := ⟨v, xs, rfl, q⟩
theorem g_gnil (q : n σ H) : gNil [] σ H n := ⟨rfl, q⟩
theorem g_gsub {to ti : TE} {t : TSet} (q : to σ H fun o H1 => ti σ H1 fun i H2 => t o i v H2 fun H3 => n σ H3) : gSub to ti t v σ H n := q
theorem g_powE {e : Int} (h : CPow i j) (he : i ^ j.toNat = e) (q : Q (.int e) H) : L2.rI CPow (fun i j => .int (i ^ j.toNat)) (.int i) (.int j) H Q := ⟨i, j, rfl, rfl, h, by subst he; exact q⟩
theorem g_powE' {e : Int} (h : CPow i j) (he : i ^ j.toNat = e) (q : Q (.int e) H) : rPow (.int i) (.int j) H Q := g_powE h he q
theorem g_lshE {e : Int} (h : CShl i j) (he : (2 : Int) ^ j.toNat = e) (q : Q (.int (i * e)) H) : rLsh (.int i) (.int j) H Q := ⟨i, j, rfl, rfl, h, by subst he; exact q⟩
theorem g_rshE {e : Int} (h : 0 ≤ j) (he : (2 : Int) ^ j.toNat = e) (q : Q (.int (i / e)) H) : rRsh (.int i) (.int j) H Q := ⟨i, j, rfl, rfl, h, by subst he; exact q⟩
theorem g_mul (h : (-(2 ^ 64) < i ∧ i < 2 ^ 64) ∨ (-(2 ^ 64) < j ∧ j < 2 ^ 64)) (q : Q (.int (i * j)) H) : rTimes (.int i) (.int j) H Q := g_times (CMul.ok h) q
theorem g_p15 (q : Q (.int 1000000000000000) H) : rPow (.int 10) (.int 15) H Q := g_powE' ⟨by decide, by decide, by decide⟩ (by decide) q
theorem g_p60 (q : Q (.int (10 ^ 60)) H) : rPow (.int 10) (.int 60) H Q := g_powE' ⟨by decide, by decide, by decide⟩ (by decide) q
theorem g_m1 {F : V → Hp → VK → XK → Prop} {a : V} {E : XK} (q : F a H Q E) : on1 F [a] H Q E := ⟨a, rfl, q⟩
theorem g_k1 {F : V → Hp → VK → XK → Prop} {a : V} {E : XK} (q : F a H Q E) : on1 F (a :: ([] ++ [])) H Q E := ⟨a, rfl, q⟩
theorem g_m2 {F : V → V → Hp → VK → XK → Prop} {a b : V} {E : XK} (q : F a b H Q E) : on2 F [a, b] H Q E := ⟨a, b, rfl, q⟩
theorem g_k2 {F : V → V → Hp → VK → XK → Prop} {a b : V} {E : XK} (q : F a b H Q E) : on2 F (a :: ([b] ++ [])) H Q E := ⟨a, b, rfl, q⟩
theorem g_m3 {F : V → V → V → Hp → VK → XK → Prop} {a b c : V} {E : XK} (q : F a b c H Q E) : on3 F [a, b, c] H Q E := ⟨a, b, c, rfl, q⟩
theorem g_k3 {F : V → V → V → Hp → VK → XK → Prop} {a b c : V} {E : XK} (q : F a b c H Q E) : on3 F (a :: ([b, c] ++ [])) H Q E := ⟨a, b, c, rfl, q⟩
theorem g_m4 {F : V → V → V → V → Hp → VK → XK → Prop} {a b c d : V} {E : XK} (q : F a b c d H Q E) : on4 F [a, b, c, d] H Q E := ⟨a, b, c, d, rfl, q⟩
theorem g_k4 {F : V → V → V → V → Hp → VK → XK → Prop} {a b c d : V} {E : XK} (q : F a b c d H Q E) : on4 F (a :: ([b, c, d] ++ [])) H Q E := ⟨a, b, c, d, rfl, q⟩
theorem g_m5 {F : V → V → V → V → V → Hp → VK → XK → Prop} {a b c d e : V} {E : XK} (q : F a b c d e H Q E) : on5 F [a, b, c, d, e] H Q E := ⟨a, b, c, d, e, rfl, q⟩
theorem g_k5 {F : V → V → V → V → V → Hp → VK → XK → Prop} {a b c d e : V} {E : XK} (q : F a b c d e H Q E) : on5 F (a :: ([b, c, d, e] ++ [])) H Q E := ⟨a, b, c, d, e, rfl, q⟩
theorem difNY {c A B : Prop} [Decidable c] (h : c) (q : B) : if (!decide c) = true then A else B := by rw [decide_eq_true h]; exact iteF q
theorem difNX {c A B : Prop} [Decidable c] (h : ¬ c) (q : A) : if (!decide c) = true then A else B := by rw [decide_eq_false h]; exact iteT q
end
theorem at0 {u : V} {r : List V} : atI (u :: r) 0 = some u := atI_nat (j := 0) rfl
theorem at1 {u v : V} {r : List V} : atI (u :: v :: r) 1 = some v := atI_nat (j := 1) rfl
theorem at2 {u v w : V} {r : List V} : atI (u :: v :: w :: r) 2 = some w := atI_nat (j := 2) rfl
theorem at3 {u v w x : V} {r : List V} : atI (u :: v :: w :: x :: r) 3 = some x := atI_nat (j := 3) rfl
/-! ### enumerate -/
def forEK (K : PySem.W.Frag) (g : TG) (tb : TS) (n : St → Hp → Prop) (rt : VK) (σ : St) (vs : List V) (H : Hp) : Prop := ∃ a xs, vs = [.ref a] ∧ SqL K H a xs ∧ forJ (Ite K a) g tb n rt σ H
section
variable {K : PySem.W.Frag} {σ σ' : St} {H H' : Hp} {ta : TA} {tb : TS} {g : TG} {n : St → Hp → Prop} {rt : VK} {bk ct : St → Hp → Prop} {a : Addr} {xs : List V} {m1 m2 : Nat}
theorem g_forE (q : ta σ H fun vs H1 => forEK K g tb n rt σ vs H1) : tFor (iEnum K ta) g tb ⟨n, rt, bk, ct⟩ σ H := q
theorem for_E (hs : SqL K H a xs) (Pv : Nat → St → Hp → Prop) (h0 : Pv 0 σ H) (hl : ∀ i σ H, Pv i σ H → SqL K H a xs)
    (ht : ∀ i x σ H T, xs[i]? = some x → H T = none → Pv i σ H → asgn m1 (fun σ1 H1 => asgn m2 (fun σ2 H2 => tb ⟨Pv (i + 1), rt, n, Pv (i + 1)⟩ σ2 H2) x σ1 H1) (.int (i : Int)) σ (upd H T (.tup [.int (i : Int), x])))
    (hd : ∀ σ H, Pv xs.length σ H → n σ H) : forEK K (gTup K 2 (gCons (gName m1) (gCons (gName m2) gNil))) tb n rt σ [.ref a] H := by
  refine ⟨a, xs, rfl, hs, fun i m σ H => m = xs.length - i ∧ i ≤ xs.length ∧ Pv i σ H, ⟨xs.length, rfl, Nat.zero_le _, h0⟩, ?_⟩
  rintro i m σ H ⟨rfl, hi, p⟩
  by_cases hlt : i < xs.length
  · refine .inr ⟨⟨xs, xs[i], hl i σ H p, List.getElem?_eq_getElem hlt⟩, fun σ' H' => Pv (i + 1) σ' H', fun σ' H' q => ⟨xs.length - (i + 1), by omega, rfl, hlt, q⟩, fun v H' hy => ?_⟩
    obtain ⟨T, x, rfl, nT, rfl, ex⟩ := hy
    have ex := ex xs (hl i σ H p)
    exact ⟨T, [.int (i : Int), x], rfl, stt_of upd_same, rfl, _, _, rfl, _, _, rfl, rfl, ht i x σ H T ex nT p⟩
  · have e : i = xs.length := by omega
    subst e
    exact .inl ⟨⟨xs, hl _ σ H p, Nat.le_refl _⟩, hd σ H p⟩
theorem for_EI {ns : List Int} (hs : SqL K H a (ns.map V.int)) (Pv : Nat → St → Hp → Prop) (h0 : Pv 0 σ H) (hl : ∀ i σ H, Pv i σ H → SqL K H a (ns.map V.int))
    (ht : ∀ i z σ H T, ns[i]? = some z → H T = none → Pv i σ H → asgn m1 (fun σ1 H1 => asgn m2 (fun σ2 H2 => tb ⟨Pv (i + 1), rt, n, Pv (i + 1)⟩ σ2 H2) (.int z) σ1 H1) (.int (i : Int)) σ (upd H T (.tup [.int (i : Int), .int z])))
    (hd : ∀ σ H, Pv ns.length σ H → n σ H) : forEK K (gTup K 2 (gCons (gName m1) (gCons (gName m2) gNil))) tb n rt σ [.ref a] H := by
  refine for_E hs Pv h0 hl (fun i x σ H T hx hT p => ?_) fun σ H p => hd σ H (by rw [List.length_map] at p; exact p)
  obtain ⟨z, hz, rfl⟩ := map_at hx
  exact ht i z σ H T hz hT p
end
/-! ### isinstance of own classes -/
class HasIns (K : PySem.W.Frag) (C : Str) : Prop where
  ha : PySem.W.findIn K (.ref (He.ga K C)) "__class__" = some (some (.builtin "object.__class__"))
  hn : PySem.W.specialIn K (.builtin "object.__class__") "__get__" = some (some (.builtin "getset_descriptor.__get__"))
  ht : PySem.W.takesIn K (.builtin "object.__class__") = some true
  hm : PySem.W.mroIn K (He.ga K C) (.type "object") = some true
class HasKit (K : PySem.W.Frag) (C D : Str) (b : outParam Bool) : Prop where h : PySem.W.kitOne K (.ref (He.ga K C)) (.ref (He.ga K D)) = some b
theorem ty_ins {K : PySem.W.Frag} {H : Hp} {a dx : Addr} {C : Str} {fs : List (Str × V)} [c : HasCls K C] [i : HasIns K C] (h : H a = some (.ins (He.ga K C) dx fs)) : TyX K H (.ref a) (.ref (He.ga K C)) := .base (.ins h c.h i.ha i.hn i.ht i.hm)
theorem g_isiC {K : PySem.W.Frag} {H : Hp} {Q : VK} {a dx : Addr} {C D : Str} {b : Bool} {fs : List (Str × V)} [HasCls K C] [HasIns K C] [k : HasKit K C D b] (h : H a = some (.ins (He.ga K C) dx fs)) (q : Q (.bl b) H) : rIsi2 K [.ref a, .ref (He.ga K D)] H Q :=
  .inl ⟨.ref a, .ref (He.ga K D), .ref (He.ga K C), .ref (He.ga K D), b, rfl, .own _, ty_ins h, k.h, q⟩
/-! ### shifts of 1 -/
theorem g_sh15 {H : Hp} {Q : VK} (q : Q (.int 32768) H) : rLsh (.int 1) (.int 15) H Q := g_lshE (e := 32768) ⟨by decide, by decide⟩ (by decide) (by simpa using q)
theorem g_sh16 {H : Hp} {Q : VK} (q : Q (.int 65536) H) : rLsh (.int 1) (.int 16) H Q := g_lshE (e := 65536) ⟨by decide, by decide⟩ (by decide) (by simpa using q)
theorem g_sh23 {H : Hp} {Q : VK} (q : Q (.int 8388608) H) : rLsh (.int 1) (.int 23) H Q := g_lshE (e := 8388608) ⟨by decide, by decide⟩ (by decide) (by simpa using q)
theorem g_sh24 {H : Hp} {Q : VK} (q : Q (.int 16777216) H) : rLsh (.int 1) (.int 24) H Q := g_lshE (e := 16777216) ⟨by decide, by decide⟩ (by decide) (by simpa using q)
theorem g_sh40 {H : Hp} {Q : VK} (q : Q (.int 1099511627776) H) : rLsh (.int 1) (.int 40) H Q := g_lshE (e := 1099511627776) ⟨by decide, by decide⟩ (by decide) (by simpa using q)
theorem g_sh48 {H : Hp} {Q : VK} (q : Q (.int 281474976710656) H) : rLsh (.int 1) (.int 48) H Q := g_lshE (e := 281474976710656) ⟨by decide, by decide⟩ (by decide) (by simpa using q)
theorem g_p30 {H : Hp} {Q : VK} (q : Q (.int 1000000000000000000000000000000) H) : rPow (.int 10) (.int 30) H Q := g_powE' ⟨by decide, by decide, by decide⟩ (by decide) q
/-! Fo, zip: loops and comprehensions over two lists of ints. -/
def forZK (K : PySem.W.Frag) (g : TG) (tb : TS) (n : St → Hp → Prop) (rt : VK) (σ : St) (vs : List V) (H : Hp) : Prop := ∃ a b xs ys, vs = [.ref a, .ref b] ∧ SqL K H a xs ∧ SqL K H b ys ∧ forJ (Itz K a b) g tb n rt σ H
def lcZK (K : PySem.W.Frag) (g : TG) (tt : TT) (te : TE) (us : List Nat) (σ : St) (vs : List V) (H : Hp) (Q : VK) : Prop := ∃ a b xs ys, vs = [.ref a, .ref b] ∧ SqL K H a xs ∧ SqL K H b ys ∧ lcJ (Itz K a b) g tt te us σ H Q
def eachZ (te : TE) (m1 m2 : Nat) (σ : St) (H1 : Hp) (w c : Int) (y : V) : Prop :=
  ∀ H2 Q, Same H1 H2 → (∀ H3, Same H2 H3 → Q y H3) → asgn m1 (fun σ1 H' => asgn m2 (fun σ2 H'' => te σ2 H'' Q) (.int c) σ1 H') (.int w) ((σ.set m2 none).set m1 none) H2
section
variable {K : PySem.W.Frag} {σ σ' : St} {H H' : Hp} {Q : VK} {te : TE} {ta : TA} {tb : TS} {g : TG} {n : St → Hp → Prop} {rt : VK} {bk ct : St → Hp → Prop} {a b : Addr} {ws cs : List Int} {m1 m2 : Nat} {i : Nat} {x y : V}
theorem g_forZ (q : ta σ H fun vs H1 => forZK K g tb n rt σ vs H1) : tFor (iZip K ta) g tb ⟨n, rt, bk, ct⟩ σ H := q
theorem g_lcZ {tt : TT} {us : List Nat} (q : ta σ H fun vs H1 => lcZK K g tt te us σ vs H1 Q) : tLc (iZip K ta) g tt te us σ H Q := q
theorem zip_at (hw : SqL K H a (ws.map V.int)) (hc : SqL K H b (cs.map V.int)) (hx : ∀ xs, SqL K H a xs → xs[i]? = some x) (hy : ∀ ys, SqL K H b ys → ys[i]? = some y) : ∃ w c, ws[i]? = some w ∧ cs[i]? = some c ∧ x = .int w ∧ y = .int c := by
  obtain ⟨w, ew, rfl⟩ := map_at (hx _ hw)
  obtain ⟨c, ec, rfl⟩ := map_at (hy _ hc)
  exact ⟨w, c, ew, ec, rfl, rfl⟩
theorem for_ZI (hs : SqL K H a (ws.map V.int)) (hc : SqL K H b (cs.map V.int)) (hl : ws.length = cs.length) (Pv : Nat → St → Hp → Prop) (h0 : Pv 0 σ H) (hk : ∀ i σ H, Pv i σ H → SqL K H a (ws.map V.int) ∧ SqL K H b (cs.map V.int))
    (ht : ∀ i w c σ H T, ws[i]? = some w → cs[i]? = some c → H T = none → Pv i σ H → asgn m1 (fun σ1 H1 => asgn m2 (fun σ2 H2 => tb ⟨Pv (i + 1), rt, n, Pv (i + 1)⟩ σ2 H2) (.int c) σ1 H1) (.int w) σ (upd H T (.tup [.int w, .int c])))
    (hd : ∀ σ H, Pv ws.length σ H → n σ H) : forZK K (gTup K 2 (gCons (gName m1) (gCons (gName m2) gNil))) tb n rt σ [.ref a, .ref b] H := by
  refine ⟨a, b, _, _, rfl, hs, hc, fun i m σ H => m = ws.length - i ∧ i ≤ ws.length ∧ Pv i σ H, ⟨ws.length, rfl, Nat.zero_le _, h0⟩, ?_⟩
  rintro i m σ H ⟨rfl, hi, p⟩
  obtain ⟨ka, kb⟩ := hk i σ H p
  by_cases hlt : i < ws.length
  · refine .inr ⟨⟨_, _, .int ws[i], .int (cs[i]'(hl ▸ hlt)), ka, kb, ?_, ?_⟩, fun σ' H' => Pv (i + 1) σ' H', fun σ' H' q => ⟨ws.length - (i + 1), by omega, rfl, hlt, q⟩, fun v H' hy => ?_⟩
    · rw [List.getElem?_map, List.getElem?_eq_getElem hlt]; rfl
    · rw [List.getElem?_map, List.getElem?_eq_getElem (hl ▸ hlt)]; rfl
    obtain ⟨T, x, y, rfl, nT, rfl, ex, ey⟩ := hy
    obtain ⟨w, c, ew, ec, rfl, rfl⟩ := zip_at ka kb ex ey
    exact ⟨T, [.int w, .int c], rfl, stt_of upd_same, rfl, _, _, rfl, _, _, rfl, rfl, ht i w c σ H T ew ec nT p⟩
  · have e : i = ws.length := by omega
    subst e
    exact .inl ⟨⟨_, _, ka, kb, .inl (by rw [List.length_map]; exact Nat.le_refl _)⟩, hd σ H p⟩
theorem wipe2 (hne : m1 ≠ m2) (x y : Option V) : wipe (((wipe σ [m1, m2]).set m1 x).set m2 y) [m1, m2] = wipe σ [m1, m2] := by
  show ((((((σ.set m2 none).set m1 none).set m1 x).set m2 y).set m2 none).set m1 none) = ((σ.set m2 none).set m1 none)
  rw [List.set_set, List.set_set, List.set_comm x none hne, List.set_set, List.set_set]
theorem lc_ZI (hs : SqL K H a (ws.map V.int)) (hc : SqL K H b (cs.map V.int)) (hl : ws.length = cs.length) (hne : m1 ≠ m2) (f : Int → Int → V) (hb : ws.length ≤ 1000000)
    (he : ∀ w c, w ∈ ws → c ∈ cs → eachZ te m1 m2 σ H w c (f w c)) (hq : ∀ D H3, H D = none → Same H H3 → H3 D = some (.lst (List.zipWith f ws cs)) → Q (.ref D) H3) :
    lcZK K (gTup K 2 (gCons (gName m1) (gCons (gName m2) gNil))) tYes te [m1, m2] σ [.ref a, .ref b] H Q := by
  refine ⟨a, b, _, _, rfl, hs, hc, fun D hD => ?_⟩
  refine ⟨fun i k H3 => k = ws.length - i ∧ i ≤ ws.length ∧ Same H H3 ∧ H3 D = some (.lst (List.zipWith f (ws.take i) (cs.take i))), ⟨ws.length, rfl, Nat.zero_le _, same_new (Same.refl _) hD, upd_same⟩, ?_⟩
  rintro i k H3 ⟨rfl, hi, s, e⟩
  have ka := s.seq hs
  have kb := s.seq hc
  by_cases hlt : i < ws.length
  · refine .inr ⟨⟨_, _, .int ws[i], .int (cs[i]'(hl ▸ hlt)), ka, kb, ?_, ?_⟩, fun H4 => Same H H4 ∧ H4 D = some (.lst (List.zipWith f (ws.take (i + 1)) (cs.take (i + 1)))), fun H4 p => ⟨ws.length - (i + 1), by omega, rfl, hlt, p⟩, fun v H4 hy => ?_⟩
    · rw [List.getElem?_map, List.getElem?_eq_getElem hlt]; rfl
    · rw [List.getElem?_map, List.getElem?_eq_getElem (hl ▸ hlt)]; rfl
    obtain ⟨T, x, y, rfl, nT, rfl, ex, ey⟩ := hy
    obtain ⟨w, c, ew, ec, rfl, rfl⟩ := zip_at ka kb ex ey
    refine ⟨T, [.int w, .int c], rfl, stt_of upd_same, rfl, _, _, rfl, _, _, rfl, rfl, wipe2 hne _ _, ?_⟩
    have yes : ∀ {A B : Prop}, A → if true = true then A else B := fun h => iteT h
    refine yes (B := ((fun H2 => Same H H2 ∧ H2 D = some (HO.lst (List.zipWith f (ws.take (i + 1)) (cs.take (i + 1))))) (upd H3 T (.tup [.int w, .int c])))) ?_
    have nTD : D ≠ T := ne_of_none e nT
    refine he w c (List.mem_of_getElem? ew) (List.mem_of_getElem? ec) _ _ (same_new s nT) fun H5 s5 => ⟨List.zipWith f (ws.take i) (cs.take i), s5 _ _ (lk_mut nTD e), ?_, same_mut (Same.trans (same_new s nT) s5) hD, ?_⟩
    · rw [List.length_zipWith, List.length_take]
      refine Nat.lt_of_le_of_lt (m := 1000000) ?_ (by decide)
      omega
    · rw [upd_same, List.take_add_one, List.take_add_one, ew, ec]
      rw [List.zipWith_append (by simp only [List.length_take]; omega)]
      rfl
  · have e1 : i = ws.length := by omega
    subst e1
    rw [List.take_length, List.take_of_length_le (Nat.le_of_eq hl.symm)] at e
    exact .inl ⟨⟨_, _, ka, kb, .inl (by rw [List.length_map]; exact Nat.le_refl _)⟩, hq D H3 hD s e⟩
end
/-! ### ranges with a step -/
def forR3K (g : TG) (tb : TS) (n : St → Hp → Prop) (rt : VK) (σ : St) (vs : List V) (H : Hp) : Prop := ∃ (i j c : Int) (k : Nat), vs = [.int i, .int j, .int c] ∧ RgC i j c k ∧ forJ (Itc i c k) g tb n rt σ H
def lcR3K (g : TG) (tt : TT) (te : TE) (vs : List Nat) (σ : St) (us : List V) (H : Hp) (Q : VK) : Prop := ∃ (i j c : Int) (k : Nat), us = [.int i, .int j, .int c] ∧ RgC i j c k ∧ lcJ (Itc i c k) g tt te vs σ H Q
section
variable {K : PySem.W.Frag} {σ σ' : St} {H H' : Hp} {Q : VK} {te : TE} {ta : TA} {tb : TS} {g : TG} {n : St → Hp → Prop} {rt : VK} {bk ct : St → Hp → Prop} {m k : Nat} {i j c : Int}
theorem g_forR3 (q : ta σ H fun vs H1 => forR3K g tb n rt σ vs H1) : tFor (iRng3 ta) g tb ⟨n, rt, bk, ct⟩ σ H := q
theorem g_lcR3 {tt : TT} {vs : List Nat} (q : ta σ H fun us H1 => lcR3K g tt te vs σ us H1 Q) : tLc (iRng3 ta) g tt te vs σ H Q := q
theorem for_R3 (hr : RgC i j c k) (Pv : Nat → St → Hp → Prop) (h0 : Pv 0 σ H)
    (ht : ∀ (l : Nat) σ H, l < k → Pv l σ H → asgn m (fun σ2 H2 => tb ⟨Pv (l + 1), rt, n, Pv (l + 1)⟩ σ2 H2) (.int (i + (l : Int) * c)) σ H) (hd : ∀ σ H, Pv k σ H → n σ H) : forR3K (gName m) tb n rt σ [.int i, .int j, .int c] H := by
  refine ⟨i, j, c, k, rfl, hr, fun l mm σ H => mm = k - l ∧ l ≤ k ∧ Pv l σ H, ⟨k, rfl, Nat.zero_le _, h0⟩, ?_⟩
  rintro l mm σ H ⟨rfl, hl, p⟩
  by_cases hlt : l < k
  · refine .inr ⟨hlt, fun σ' H' => Pv (l + 1) σ' H', fun σ' H' q => ⟨k - (l + 1), by omega, rfl, hlt, q⟩, fun v H' hy => ?_⟩
    obtain ⟨rfl, rfl⟩ := hy
    exact ht l σ _ hlt p
  · have e : l = k := by omega
    subst e
    exact .inl ⟨Nat.le_refl _, hd σ H p⟩
theorem lc_R3 (hr : RgC i j c k) (f : Nat → V) (hl : k ≤ 1000000) (he : ∀ l, l < k → ∀ D, eachK te m σ H D (.int (i + (l : Int) * c)) (f l)) (hq : ∀ D H3, H D = none → Same H H3 → H3 D = some (.lst ((List.range k).map f)) → Q (.ref D) H3) :
    lcR3K (gName m) tYes te [m] σ [.int i, .int j, .int c] H Q := by
  refine ⟨i, j, c, k, rfl, hr, fun D hD => ?_⟩
  refine ⟨fun l kk H3 => kk = k - l ∧ l ≤ k ∧ Same H H3 ∧ H3 D = some (.lst ((List.range l).map f)), ⟨k, rfl, Nat.zero_le _, same_new (Same.refl _) hD, upd_same⟩, ?_⟩
  rintro l kk H3 ⟨rfl, hlk, s, e⟩
  by_cases hlt : l < k
  · refine .inr ⟨hlt, fun H4 => Same H H4 ∧ H4 D = some (.lst ((List.range (l + 1)).map f)), fun H4 p => ⟨k - (l + 1), by omega, rfl, hlt, p⟩, fun v H4 hy => ?_⟩
    obtain ⟨rfl, rfl⟩ := hy
    refine ⟨wipe1 _, ?_⟩
    have yes : ∀ {A B : Prop}, A → if true = true then A else B := fun h => iteT h
    refine yes (B := ((fun H2 => Same H H2 ∧ H2 D = some (HO.lst ((List.range (l + 1)).map f))) H4)) ?_
    refine he l hlt D H4 _ s fun H5 s5 => ⟨(List.range l).map f, s5 _ _ e, ?_, same_mut (Same.trans s s5) hD, ?_⟩
    · rw [List.length_map, List.length_range]
      exact Nat.lt_of_le_of_lt (m := 1000000) (by omega) (by decide)
    · rw [upd_same, List.range_succ, List.map_append]
      rfl
  · have e1 : l = k := by omega
    subst e1
    exact .inl ⟨Nat.le_refl _, hq D H3 hD s e⟩
end
theorem g_mask1 {i : Int} {H : Hp} {Q : VK} (q : Q (.int (i % 2)) H) : rMask (.int i) (.int 1) H Q := ⟨i, 1, rfl, by decide, q⟩
theorem g_extend {H : Hp} {Q : VK} {p r : Addr} {xs ys : List V} (h : H p = some (.lst xs)) (k : H r = some (.lst ys)) (hl : xs.length + ys.length ≤ sizeLine) (q : Q .non (upd H p (.lst (xs ++ ys)))) : rExtend (.ref p) [.ref r] H Q :=
  ⟨p, r, xs, ys, rfl, rfl, h, k, hl, q⟩
/-! ### comprehensions whose elements are new things: each is related to its item -/
section
variable {K : PySem.W.Frag} {σ : St} {H : Hp} {Q : VK} {te : TE} {m : Nat} {a : Addr} {ns : List Int}
theorem lc_LR (hs : SqL K H a (ns.map V.int)) (R : Int → V → Hp → Prop) (mono : ∀ z y H0 H1 D zs, H0 D = some (.lst zs) → SameX (· = D) H0 H1 → R z y H0 → R z y H1) (hl : ns.length ≤ 1000000)
    (he : ∀ z, z ∈ ns → ∀ H2 Q2, Same H H2 → (∀ y H3, Same H2 H3 → R z y H3 → Q2 y H3) → asgn m (fun σ2 H2 => te σ2 H2 Q2) (.int z) (σ.set m none) H2)
    (hq : ∀ D H3 ys, H D = none → Same H H3 → H3 D = some (.lst ys) → ys.length = ns.length → (∀ (i : Nat) z y, ns[i]? = some z → ys[i]? = some y → R z y H3) → Q (.ref D) H3) :
    lcLK K (gName m) tYes te [m] σ (.ref a) H Q := by
  refine ⟨a, rfl, ⟨_, hs⟩, fun D hD => ?_⟩
  refine ⟨fun i k H3 => k = ns.length - i ∧ i ≤ ns.length ∧ Same H H3 ∧ ∃ ys, H3 D = some (.lst ys) ∧ ys.length = i ∧ ∀ (j : Nat) z y, ns[j]? = some z → ys[j]? = some y → R z y H3, ⟨ns.length, rfl, Nat.zero_le _, same_new (Same.refl _) hD, [], upd_same, rfl, fun j z y _ h => by simp at h⟩, ?_⟩
  rintro i k H3 ⟨rfl, hi, s, ys, e, yl, hr⟩
  have ka := s.seq hs
  by_cases hlt : i < ns.length
  · refine .inr ⟨⟨_, .int ns[i], ka, by rw [List.getElem?_map, List.getElem?_eq_getElem hlt]; rfl⟩, fun H4 => Same H H4 ∧ ∃ ys, H4 D = some (.lst ys) ∧ ys.length = i + 1 ∧ ∀ (j : Nat) z y, ns[j]? = some z → ys[j]? = some y → R z y H4, fun H4 p => ⟨ns.length - (i + 1), by omega, rfl, hlt, p⟩, fun v H4 hy => ?_⟩
    obtain ⟨rfl, ex⟩ := hy
    obtain ⟨z, ez, rfl⟩ := map_at (ex _ ka)
    refine ⟨wipe1 _, ?_⟩
    have yes : ∀ {A B : Prop}, A → if true = true then A else B := fun h => iteT h
    refine yes (B := ((fun H4 => Same H H4 ∧ ∃ ys, H4 D = some (HO.lst ys) ∧ ys.length = i + 1 ∧ ∀ (j : Nat) z y, ns[j]? = some z → ys[j]? = some y → R z y H4) H4)) ?_
    refine he z (List.mem_of_getElem? ez) H4 _ s fun y H5 s5 ry => ⟨ys, s5 _ _ e, Nat.lt_of_le_of_lt (m := 1000000) (by omega) (by decide), same_mut (Same.trans s s5) hD, ys ++ [y], upd_same, by rw [List.length_append, yl]; rfl, fun j z' y' hz' hy' => ?_⟩
    have X : SameX (· = D) H5 (upd H5 D (.lst (ys ++ [y]))) := (SameX.refl H5).mut rfl
    rcases Nat.lt_or_ge j i with c | c
    · rw [List.getElem?_append_left (by omega)] at hy'
      exact mono _ _ _ _ D ys (s5 _ _ e) X (mono _ _ _ _ D ys e (SameX.of s5) (hr j z' y' hz' hy'))
    · have ej : j = i := by
        have h2 := (List.getElem?_eq_some_iff.mp hy').1
        rw [List.length_append, yl, List.length_singleton] at h2
        omega
      subst ej
      rw [List.getElem?_append_right (by omega), yl, Nat.sub_self] at hy'
      rw [ez] at hz'
      cases hz'
      cases hy'
      exact mono _ _ _ _ D ys (s5 _ _ e) X ry
  · have e1 : i = ns.length := by omega
    subst e1
    exact .inl ⟨⟨_, ka, by rw [List.length_map]; exact Nat.le_refl _⟩, hq D H3 ys hD s e yl hr⟩
end
/-! Fo, comprehensions by what holds at each turn; with a test. -/
section
variable {K : PySem.W.Frag} {σ : St} {H : Hp} {Q : VK} {te : TE} {ta : TA} {tt : TT} {g : TG} {m : Nat} {a : Addr} {xs : List V} {i j : Int} {k : Nat}
/-- over anything, by what holds of the new list and all that is done so far -/
theorem lc_LN (hs : SqL K H a xs) (hl : xs.length ≤ 1000000) (I : Addr → Nat → List V → Hp → Prop) (h0 : ∀ D, H D = none → I D 0 [] (upd H D (.lst [])))
    (hk : ∀ D i ys H2, I D i ys H2 → SqL K H2 a xs ∧ H2 D = some (.lst ys) ∧ ys.length = i)
    (he : ∀ D i x ys H2 Q2, xs[i]? = some x → I D i ys H2 → (∀ y H4, H4 D = some (.lst ys) → I D (i + 1) (ys ++ [y]) (upd H4 D (.lst (ys ++ [y]))) → Q2 y H4) → asgn m (fun σ2 H2 => te σ2 H2 Q2) x (σ.set m none) H2)
    (hq : ∀ D ys H3, I D xs.length ys H3 → Q (.ref D) H3) : lcLK K (gName m) tYes te [m] σ (.ref a) H Q := by
  refine ⟨a, rfl, ⟨_, hs⟩, fun D hD => ?_⟩
  refine ⟨fun i k H3 => k = xs.length - i ∧ i ≤ xs.length ∧ ∃ ys, I D i ys H3, ⟨xs.length, rfl, Nat.zero_le _, [], h0 D hD⟩, ?_⟩
  rintro i k H3 ⟨rfl, hi, ys, hI⟩
  obtain ⟨ka, e, yl⟩ := hk D i ys H3 hI
  by_cases hlt : i < xs.length
  · refine .inr ⟨⟨_, xs[i], ka, List.getElem?_eq_getElem hlt⟩, fun H4 => ∃ ys, I D (i + 1) ys H4, fun H4 p => ⟨xs.length - (i + 1), by omega, rfl, hlt, p⟩, fun v H4 hy => ?_⟩
    obtain ⟨rfl, ex⟩ := hy
    have ex := ex _ ka
    refine ⟨wipe1 _, ?_⟩
    have yes : ∀ {A B : Prop}, A → if true = true then A else B := fun h => iteT h
    refine yes (B := ((fun H4 => ∃ ys, I D (i + 1) ys H4) H4)) ?_
    exact he D i v ys H4 _ ex hI fun y H5 e5 I5 => ⟨ys, e5, Nat.lt_of_le_of_lt (m := 1000000) (by omega) (by decide), ys ++ [y], I5⟩
  · have e1 : i = xs.length := by omega
    subst e1
    exact .inl ⟨⟨_, ka, Nat.le_refl _⟩, hq D ys H3 hI⟩
/-- over 0 .. k -/
theorem lc_R1N (hk : j = (k : Int)) (hl : k ≤ 1000000) (I : Addr → Nat → List V → Hp → Prop) (h0 : ∀ D, H D = none → I D 0 [] (upd H D (.lst [])))
    (hI : ∀ D i ys H2, I D i ys H2 → H2 D = some (.lst ys) ∧ ys.length = i)
    (he : ∀ D i ys H2 Q2, i < k → I D i ys H2 → (∀ y H4, H4 D = some (.lst ys) → I D (i + 1) (ys ++ [y]) (upd H4 D (.lst (ys ++ [y]))) → Q2 y H4) → asgn m (fun σ2 H2 => te σ2 H2 Q2) (.int (i : Int)) (σ.set m none) H2)
    (hq : ∀ D ys H3, I D k ys H3 → Q (.ref D) H3) : lcR1K (gName m) tYes te [m] σ [.int j] H Q := by
  subst hk
  refine ⟨k, rfl, by omega, by omega, fun D hD => ?_⟩
  refine ⟨fun i n H3 => n = k - i ∧ i ≤ k ∧ ∃ ys, I D i ys H3, ⟨k, rfl, Nat.zero_le _, [], h0 D hD⟩, ?_⟩
  rintro i n H3 ⟨rfl, hi, ys, hI3⟩
  obtain ⟨e, yl⟩ := hI D i ys H3 hI3
  by_cases hlt : i < k
  · refine .inr ⟨by show i < (k : Int).toNat; simpa using hlt, fun H4 => ∃ ys, I D (i + 1) ys H4, fun H4 p => ⟨k - (i + 1), by omega, rfl, hlt, p⟩, fun v H4 hy => ?_⟩
    obtain ⟨rfl, rfl⟩ := hy
    refine ⟨wipe1 _, ?_⟩
    have yes : ∀ {A B : Prop}, A → if true = true then A else B := fun h => iteT h
    refine yes (B := ((fun H4 => ∃ ys, I D (i + 1) ys H4) H4)) ?_
    rw [show (0 : Int) + (i : Int) = (i : Int) by omega]
    exact he D i ys H4 _ hlt hI3 fun y H5 e5 I5 => ⟨ys, e5, Nat.lt_of_le_of_lt (m := 1000000) (by omega) (by decide), ys ++ [y], I5⟩
  · have e1 : i = k := by omega
    subst e1
    exact .inl ⟨by show (i : Int).toNat ≤ i; simp, hq D ys H3 hI3⟩
/-- with a test, over an iteration of ints from i -/
theorem lc_testJ {J : It} (b : Int) (hg : ∀ i H, i < k → J.go i H) (hy : ∀ i H x H2, J.yld i H x H2 → H2 = H ∧ x = .int (b + (i : Int))) (hs : ∀ H, J.stop k H) (hl : k ≤ 1000000) (p : Nat → Bool) (f : Nat → V)
    (he : ∀ i, i < k → ∀ H2 (A : V → Hp → Prop) (B : Hp → Prop), Same H H2 → (p i = true → ∀ H3, Same H2 H3 → A (f i) H3) → (p i = false → ∀ H3, Same H2 H3 → B H3) →
      asgn m (fun σ2 H2 => tt σ2 H2 fun b H3 => if b = true then te σ2 H3 A else B H3) (.int (b + (i : Int))) (σ.set m none) H2)
    (hq : ∀ D H3, H D = none → Same H H3 → H3 D = some (.lst (((List.range k).filter p).map f)) → Q (.ref D) H3) : lcJ J (gName m) tt te [m] σ H Q := by
  intro D hD
  refine ⟨fun i n H3 => n = k - i ∧ i ≤ k ∧ Same H H3 ∧ H3 D = some (.lst (((List.range i).filter p).map f)), ⟨k, rfl, Nat.zero_le _, same_new (Same.refl _) hD, upd_same⟩, ?_⟩
  rintro i n H3 ⟨rfl, hi, s, e⟩
  by_cases hlt : i < k
  · refine .inr ⟨hg i H3 hlt, fun H4 => Same H H4 ∧ H4 D = some (.lst (((List.range (i + 1)).filter p).map f)), fun H4 q => ⟨k - (i + 1), by omega, rfl, hlt, q⟩, fun v H4 hyy => ?_⟩
    obtain ⟨rfl, rfl⟩ := hy _ _ _ _ hyy
    refine ⟨wipe1 _, ?_⟩
    refine he i hlt H4 _ _ s (fun hp H5 s5 => ⟨((List.range i).filter p).map f, s5 _ _ e, ?_, same_mut (Same.trans s s5) hD, ?_⟩) fun hp H5 s5 => ⟨Same.trans s s5, ?_⟩
    · rw [List.length_map]
      have := List.length_filter_le p (List.range i)
      rw [List.length_range] at this
      exact Nat.lt_of_le_of_lt (m := 1000000) (by omega) (by decide)
    · rw [upd_same, List.range_succ, List.filter_append, List.map_append]
      simp [hp]
    · rw [s5 _ _ e, List.range_succ, List.filter_append, List.map_append]
      simp [hp]
  · have e1 : i = k := by omega
    subst e1
    exact .inl ⟨hs H3, hq D H3 hD s e⟩
theorem lc_R1F (hk : j = (k : Int)) (hl : k ≤ 1000000) (p : Nat → Bool) (f : Nat → V)
    (he : ∀ i, i < k → ∀ H2 (A : V → Hp → Prop) (B : Hp → Prop), Same H H2 → (p i = true → ∀ H3, Same H2 H3 → A (f i) H3) → (p i = false → ∀ H3, Same H2 H3 → B H3) →
      asgn m (fun σ2 H2 => tt σ2 H2 fun b H3 => if b = true then te σ2 H3 A else B H3) (.int (0 + (i : Int))) (σ.set m none) H2)
    (hq : ∀ D H3, H D = none → Same H H3 → H3 D = some (.lst (((List.range k).filter p).map f)) → Q (.ref D) H3) : lcR1K (gName m) tt te [m] σ [.int j] H Q := by
  subst hk
  refine ⟨k, rfl, by omega, by omega, lc_testJ (J := Itr 0 (k : Int).toNat) 0 (fun i H hi => by show i < (k : Int).toNat; simpa using hi) (fun i H x H2 y => y) (fun H => by show (k : Int).toNat ≤ k; simp) hl p f he hq⟩
def lcR2K (g : TG) (tt : TT) (te : TE) (vs : List Nat) (σ : St) (us : List V) (H : Hp) (Q : VK) : Prop := ∃ i j : Int, us = [.int i, .int j] ∧ (-(2 ^ 62) ≤ i ∧ i < 2 ^ 62 ∧ -(2 ^ 62) ≤ j ∧ j < 2 ^ 62) ∧ lcJ (Itr i (j - i).toNat) g tt te vs σ H Q
theorem g_lcR2 {vs : List Nat} (q : ta σ H fun us H1 => lcR2K g tt te vs σ us H1 Q) : tLc (iRng2 ta) g tt te vs σ H Q := q
theorem lc_R2F (hk : (j - i).toNat = k) (hb : -(2 ^ 62) ≤ i ∧ i < 2 ^ 62 ∧ -(2 ^ 62) ≤ j ∧ j < 2 ^ 62) (hl : k ≤ 1000000) (p : Nat → Bool) (f : Nat → V)
    (he : ∀ l, l < k → ∀ H2 (A : V → Hp → Prop) (B : Hp → Prop), Same H H2 → (p l = true → ∀ H3, Same H2 H3 → A (f l) H3) → (p l = false → ∀ H3, Same H2 H3 → B H3) →
      asgn m (fun σ2 H2 => tt σ2 H2 fun b H3 => if b = true then te σ2 H3 A else B H3) (.int (i + (l : Int))) (σ.set m none) H2)
    (hq : ∀ D H3, H D = none → Same H H3 → H3 D = some (.lst (((List.range k).filter p).map f)) → Q (.ref D) H3) : lcR2K (gName m) tt te [m] σ [.int i, .int j] H Q := by
  subst hk
  exact ⟨i, j, rfl, hb, lc_testJ (J := Itr i (j - i).toNat) i (fun l H hl => hl) (fun l H x H2 y => y) (fun H => Nat.le_refl _) hl p f he hq⟩
end
/-! ### and, of any two ints -/
def rBits : R2 := rI0 fun i j => .int (Builtin.bitAnd i j)
theorem o_bits {X : Cx} : OpR X (binaryOp .BitAnd) rBits := op_and
theorem g_bitand {i j : Int} {H : Hp} {Q : VK} (q : Q (.int (Builtin.bitAnd i j)) H) : rBits (.int i) (.int j) H Q := ⟨i, j, rfl, rfl, q⟩
theorem ixN_nat {n k : Nat} (h : k < n) : ixN n (k : Int) = some k := by
  unfold ixN
  rw [if_pos (by omega), if_pos (by omega)]
  rfl
theorem g_setL {H : Hp} {p : Addr} {xs : List V} {n : Nat} {v : V} {nH : Hp → Prop} (h : H p = some (.lst xs)) (hn : n < xs.length) (q : nH (upd H p (.lst (xs.set n v)))) : rSetL (.ref p) (.int (n : Int)) v H nH := ⟨p, xs, n, n, rfl, rfl, h, ixN_nat hn, q⟩
theorem g_on31 {F : V → V → V → Hp → VK → XK → Prop} {a b c : V} {H : Hp} {Q : VK} {E : XK} (q : F a b c H Q E) : on3 F ([a, b] ++ [c]) H Q E := ⟨a, b, c, rfl, q⟩
theorem g_on42 {F : V → V → V → V → Hp → VK → XK → Prop} {a b c d : V} {H : Hp} {Q : VK} {E : XK} (q : F a b c d H Q E) : on4 F ([a, b] ++ [c, d]) H Q E := ⟨a, b, c, d, rfl, q⟩
theorem g_on41 {F : V → V → V → V → Hp → VK → XK → Prop} {a b c d : V} {H : Hp} {Q : VK} {E : XK} (q : F a b c d H Q E) : on4 F ([a, b, c] ++ [d]) H Q E := ⟨a, b, c, d, rfl, q⟩
/-! Fo, try: one clause 'except C as e', its suite asks of which class e is. -/
def rIsET (K : PySem.W.Frag) (D a : Addr) : List V → Hp → VK → Prop := fun xs H Q => ∃ (tp : Addr) (cs : List V) (ws : List Value) (b : Bool), xs = [.ref a, .ref tp] ∧ H tp = some (.tup cs) ∧ Paired ClsV cs ws ∧ PySem.W.kitAny K (.ref D) ws = some b ∧ Q (.bl b) H
theorem call_isET {X : Cx} {a D : Addr} {oe : Obj} {pn : List (Addr × Obj)} (C : ExcC X.K D) (hz : Zc (.ref D) none oe) (hf : ∃ vs, oe.data = .fields vs) : CallR (X.suite a ((a, oe) :: pn)) (.builtin "isinstance") (rIsET X.K D a) := by
  intro pins s σ H xs us Q I r h
  obtain ⟨tp, cs, ws, b, rfl, hT, k, e, q⟩ := h
  obtain ⟨u1, u2, rfl, r1, r2⟩ := vals2 r
  cases (show u2 = Value.ref tp from r2)
  cases (show u1 = Value.ref a from r1)
  obtain ⟨_, its, rv, o, h1, h2, n, h3⟩ := (show ObjOk X.prog X.w H s.heap tp (.tup cs) from I.hok tp _ hT)
  have e3 := ClsV.all k rv
  subst e3
  obtain ⟨oc, od, dt, sl⟩ := o
  simp only at h2 h3
  subst h2 h3
  obtain ⟨hget, _⟩ := I.pin (a, oe) (List.mem_append.mpr (.inl List.mem_cons_self))
  obtain ⟨vs, hv⟩ := hf
  have J : PySem.W.InstAt s.heap a oe D none := by
    obtain ⟨oc, od, oda, osl⟩ := oe
    obtain ⟨h1, h2⟩ := hz
    dsimp only at h1 h2 hv
    subst h1 h2 hv
    exact ⟨hget, rfl, rfl, trivial⟩
  exact PySem.W.kia_tup (PySem.W.handS_kitx_exc C.hg C.hk C.hs C.hd C.ha C.hn C.ht C.hm) I.kIn J h1 e (fun z => nomatch z) fun tk => ⟨.bl b, H, I.tok tk, rfl, q⟩
def rIsEx (K : PySem.W.Frag) (D a : Addr) : List V → Hp → VK → Prop := fun xs H Q => rIsE K D a xs H Q ∨ rIsET K D a xs H Q
theorem c_isx {X : Cx} {a D : Addr} {oe : Obj} {pn : List (Addr × Obj)} (C : ExcC X.K D) (hz : Zc (.ref D) none oe) (hf : ∃ vs, oe.data = .fields vs) : CallR (X.suite a ((a, oe) :: pn)) (.builtin "isinstance") (rIsEx X.K D a) := orCall (call_isE C hz hf) (call_isET C hz hf)
/-- the suite, asked of an exception of an own class without a dict -/
def tEx (K : PySem.W.Frag) (ts : Addr → Addr → TS) : Addr → Value → Option Addr → TS := fun a cls d Dd σ H => ∃ D, cls = .ref D ∧ d = none ∧ ExcC K D ∧ ts a D Dd σ H
def tTry (K : PySem.W.Frag) (c : Value) (i : Nat) (tb : WX → TS) (ts : Addr → Addr → TS) (Wout : WX) : TS := fun D σ H => tb (wAs K c i (tEx K ts) Wout D) D σ H
section
variable {X : Cx} {x n : Str} {c : Value} {i : Nat} {body suite : List Stmt} {b₀ : Stmt} {np pos pos' : Pos} {tb : WX → TS} {ts : Addr → Addr → TS} {Wout : WX}
theorem ps_tryX (hs : X.stack = X.env :: X.outer) (hf : X.env.frame = some X.env.locals) (hN : X.N.Nodup) (hi : X.N[i]? = some n) (hln : X.env.kindOf n = some .local) (hc : Names X x c) (tk : Takes X Wout)
    (hb : ∀ (W : WX) (pn : List (Addr × Obj)) (xe : Value → Shared → Prop), Takes (X.tr pn xe) W → PassesOwn (model X.prog X.w) X.A X.env xe → PSs (X.tr pn xe) body (tb W))
    (hsu : ∀ (a : Addr) (oe : Obj) (D : Addr) (pn : List (Addr × Obj)), Zc (.ref D) none oe → (∃ vs, oe.data = .fields vs) → ExcC X.K D → PSs (X.suite a ((a, oe) :: pn)) (b₀ :: suite) (ts a D)) :
    PS X (.Try body [.ExceptHandler (some (.Name x np)) (some n) (b₀ :: suite) pos'] [] [] pos) (tTry X.K c i tb ts Wout) :=
  ps_try_as hs hf hN hi hln hc tk hb fun a oe cls d pn hz hfd => ⟨fun pins s σ H Dd I h => by
    obtain ⟨D, rfl, rfl, C, h⟩ := h
    exact (hsu a oe D pn hz hfd C).run pins s σ H Dd I h⟩
end
class HasExc (K : PySem.W.Frag) (C : Str) : Prop where h : ExcC K (He.ga K C)
class HasExm (K : PySem.W.Frag) (C D : Str) (b : outParam Bool) : Prop where h : PySem.W.exmOne K (.ref (He.ga K C)) (.ref (He.ga K D)) = some b
class HasKitT (K : PySem.W.Frag) (C : Str) (t : String) (b : outParam Bool) : Prop where h : PySem.W.kitOne K (.ref (He.ga K C)) (.type t) = some b
def unset (i : Nat) (n : St → Hp → Prop) : St → Hp → Prop := fun σ H => n (σ.set i none) H
section
variable {K : PySem.W.Frag} {σ σ' : St} {H : Hp} {Q : VK} {c : Value} {i : Nat} {tb : WX → TS} {ts : Addr → Addr → TS} {Wout : WX} {n : St → Hp → Prop} {rt : VK} {bk ct : St → Hp → Prop} {C D : Str} {a : Addr} {b : Bool}
theorem g_try (q : tb (wAs K c i (tEx K ts) Wout ⟨n, rt, bk, ct⟩) ⟨n, rt, bk, ct⟩ σ H) : tTry K c i tb ts Wout ⟨n, rt, bk, ct⟩ σ H := q
/-- what is raised is caught -/
theorem g_caught (e : HasExc K C) (m : HasExm K C D true) (q : ∀ a, H a = none → asgn i (fun σ1 H1 => ts a (He.ga K C) ⟨unset i n, rt, unset i bk, unset i ct⟩ σ1 H1) (.ref a) σ H) :
    wAs K (.ref (He.ga K D)) i (tEx K ts) Wout ⟨n, rt, bk, ct⟩ (.ref (He.ga K C)) none σ H :=
  ⟨true, m.h, fun _ a ha => ⟨He.ga K C, rfl, rfl, e.h, q a ha⟩, fun z => nomatch z⟩
theorem g_we {W : WX} {cls : Value} {d : Option Addr} (q : W cls d σ H) : WE W σ cls d H := q
theorem g_unset (r : SetR σ i none σ') (q : n σ' H) : unset i n σ H := by
  unfold unset
  rw [r.eq]
  exact q
theorem g_isx1 (k : HasKit K C D b) (q : Q (.bl b) H) : rIsEx K (He.ga K C) a [.ref a, .ref (He.ga K D)] H Q := .inl ⟨.ref (He.ga K D), .ref (He.ga K D), b, rfl, fun u r => r, k.h, q⟩
theorem g_isxT {t : String} (k : HasKitT K C t b) (q : Q (.bl b) H) : rIsEx K (He.ga K C) a [.ref a, .ty t] H Q := .inl ⟨.ty t, .type t, b, rfl, fun u r => r, k.h, q⟩
/-- classes whose answer is no -/
inductive NoneOf (K : PySem.W.Frag) (C : Str) : List V → List Value → Prop
  | nil : NoneOf K C [] []
  | cons {D : Str} {vs : List V} {us : List Value} (k : HasKit K C D false) (h : NoneOf K C vs us) : NoneOf K C (.ref (He.ga K D) :: vs) (.ref (He.ga K D) :: us)
theorem NoneOf.pair {vs : List V} {us : List Value} (h : NoneOf K C vs us) : Paired ClsV vs us ∧ PySem.W.kitAny K (.ref (He.ga K C)) us = some false := by
  induction h with
  | nil => exact ⟨.nil, kitAny_nil⟩
  | cons k h ih => exact ⟨.cons (.own _) ih.1, kitAny_cons k.h (fun _ => ih.2) (fun z => nomatch z)⟩
theorem g_isx0 {tp : Addr} {vs : List V} {us : List Value} (h : H tp = some (.tup vs)) (k : NoneOf K C vs us) (q : Q (.bl false) H) : rIsEx K (He.ga K C) a [.ref a, .ref tp] H Q := .inr ⟨tp, vs, us, false, rfl, h, k.pair.1, k.pair.2, q⟩
end
/-! ### one clause 'except C' without a name; several of them -/
def tTryO (K : PySem.W.Frag) (c : Value) (tb : WX → TS) (ts : TS) (Wout : WX) : TS := fun D σ H => tb (wOnly K c (fun _ _ _ => ts) Wout D) D σ H
section
variable {X : Cx} {x : Str} {c : Value} {body suite : List Stmt} {b₀ : Stmt} {np pos pos' : Pos} {tb : WX → TS} {ts : TS} {Wout : WX}
theorem ps_tryO (hs : X.stack = X.env :: X.outer) (hf : X.env.frame = some X.env.locals) (hc : Names X x c) (tk : Takes X Wout)
    (hb : ∀ (W : WX) (pn : List (Addr × Obj)) (xe : Value → Shared → Prop), Takes (X.tr pn xe) W → PassesOwn (model X.prog X.w) X.A X.env xe → PSs (X.tr pn xe) body (tb W))
    (hsu : ∀ (a : Addr) (oe : Obj) (pn : List (Addr × Obj)), PSs (X.suite a ((a, oe) :: pn)) (b₀ :: suite) ts) :
    PS X (.Try body [.ExceptHandler (some (.Name x np)) none (b₀ :: suite) pos'] [] [] pos) (tTryO X.K c tb ts Wout) :=
  ps_try_only (ts := fun _ _ _ => ts) hs hf hc tk hb fun a oe _ _ pn _ _ => hsu a oe pn
end
section
variable {K : PySem.W.Frag} {σ : St} {H : Hp} {c : Value} {tb : WX → TS} {ts : TS} {Wout : WX} {n : St → Hp → Prop} {rt : VK} {bk ct : St → Hp → Prop} {C D : Str}
theorem g_tryO (q : tb (wOnly K c (fun _ _ _ => ts) Wout ⟨n, rt, bk, ct⟩) ⟨n, rt, bk, ct⟩ σ H) : tTryO K c tb ts Wout ⟨n, rt, bk, ct⟩ σ H := q
theorem g_caughtO (m : HasExm K C D true) (q : ts ⟨n, rt, bk, ct⟩ σ H) : wOnly K (.ref (He.ga K D)) (fun _ _ _ => ts) Wout ⟨n, rt, bk, ct⟩ (.ref (He.ga K C)) none σ H :=
  ⟨true, m.h, fun _ _ _ => q, fun z => nomatch z⟩
theorem g_passedO (m : HasExm K C D false) (q : Wout (.ref (He.ga K C)) none σ H) : wOnly K (.ref (He.ga K D)) (fun _ _ _ => ts) Wout ⟨n, rt, bk, ct⟩ (.ref (He.ga K C)) none σ H :=
  ⟨false, m.h, fun z => (nomatch z), fun _ => q⟩
end
/-! Fo, make: an own class that has no __init__. -/
structure Mk0 (K : PySem.W.Frag) (C : Addr) : Prop where
  makes : PySem.W.makesIn K C = true
  init : PySem.W.findIn K (.ref C) "__init__" = some (some (.builtin "object.__init__"))
  top : PySem.W.mroIn K C (.type "object") = some true
  kp : PySem.W.keepIn K (.ref C) = true
theorem make_new0 {prog : Program} {w : World} {A : Around} {K : PySem.W.Frag} {C : Addr} {R : Result → Shared → Prop} {s : Shared} (M : Mk0 K C) (X : K.In s.heap)
    (X2 : K.In ((s.heap.push PySem.W.emptyDict).push (PySem.W.instObj C s.heap.objs.size)))
    (h : R (.ok (.ret (.ref (s.heap.objs.size + 1)))) { s with heap := (s.heap.push PySem.W.emptyDict).push (PySem.W.instObj C s.heap.objs.size) }) :
    codeAny (model prog w) A (.call (.ref C) ⟨[], []⟩) R s := by
  refine make_map0 X M.makes M.init (fun self => PySem.W.Looks.of_pure (PySem.W.oi_bind _)) ?_
  have ho : ((s.heap.push PySem.W.emptyDict).push (PySem.W.instObj C s.heap.objs.size)).get? (s.heap.objs.size + 1) = some (PySem.W.instObj C s.heap.objs.size) := by
    have z := Heap.get?_push_size (s.heap.push PySem.W.emptyDict) (o := PySem.W.instObj C s.heap.objs.size) rfl
    rwa [Heap.size_push] at z
  have t1 : PySem.W.Looks (model prog w) ((s.heap.push PySem.W.emptyDict).push (PySem.W.instObj C s.heap.objs.size)) (typeOf (.ref (s.heap.objs.size + 1))) (.ref C) := NwA.type_at ho rfl
  have t2 : PySem.W.Looks (model prog w) ((s.heap.push PySem.W.emptyDict).push (PySem.W.instObj C s.heap.objs.size)) (isInstance (.ref (s.heap.objs.size + 1)) (.type "object")) true := t1.andThen (PySem.W.looks_mroIn X2 M.top)
  obtain ⟨hh, g, d, t, os⟩ := s
  refine codeAny_call_builtin PySem.W.oi_plain PySem.W.entry_oi (@PySem.W.check_slot (model prog w) _ _ _ "object.__init__" "object" "__init__" _ [] [] _ PySem.W.oi_kind PySem.W.oi_split t2 (NwA.oi_args_any _ [] []) ?_)
  rw [PySem.W.oi_run]
  exact wpAny_pure (And.intro rfl h)
/-- C(): the new instance x, its dict dx -/
def tNew0 (C : Addr) : TE := fun _ H Q => ∀ x dx, H x = none → H dx = none → dx ≠ x → Q (.ref x) (upd (upd H dx (.own x)) x (.ins C dx []))
theorem g_new0 {C : Addr} {σ : St} {H : Hp} {Q : VK} (q : ∀ x dx, H x = none → H dx = none → dx ≠ x → Q (.ref x) (upd (upd H dx (.own x)) x (.ins C dx []))) : tNew0 C σ H Q := q
section
variable {X : Cx} {C : Addr} {x : Str} {p pos : Pos}
theorem pe_newO (M : Mk0 X.K C) (hm : X.mg x = some (.ref C)) (hg : Gl X x := by rfl) (hdb : (x == ("__debug__" : Str)) = false := by decide) : PE X (.Call (.Name x p) [] [] pos) (tNew0 C) := by
  refine ⟨fun pins s σ H Q I h => ?_⟩
  refine wpAny_Call_Name_kw (ld_glob I hg hm ?_ hdb)
  refine PySem.W.callWith_K0 I.kIn M.kp ?_
  have n1 := I.hok.fresh (Nat.le_succ s.heap.objs.size)
  have n2 := I.hok.fresh (Nat.le_refl s.heap.objs.size)
  have I2 := Inv.made (C := C) I
  exact wpAny_call (make_new0 M I.kIn I2.kIn ⟨V.ref (s.heap.objs.size + 1), _, I2, rfl, h _ _ n1 n2 (Nat.ne_of_lt (Nat.lt_succ_self _))⟩)
end
/-- a global that is a tuple -/
class HasTup (K : PySem.W.Frag) (x : Str) (vs : outParam (List V)) : Prop where h : ∀ H, SqT K H (He.ga K x) vs
/-! Fo, end: from a law's promise to its statement. -/
theorem cx_any {P : Program} {w : World} {K : PySem.W.Frag} {mg : Str → Option Value} {base : Heap} {k : Nat} {f : Addr} {fd : FuncData} {ps : List Str} {sp : Sp} (F : FnOk P w K mg base (L2.CX P w) k f fd ps sp) :
    FnOk P w K mg base (fun o H s E u s' => ∃ (P : Program) (w : World), L2.CX P w o H s E u s') k f fd ps sp :=
  ⟨F.len, fun A outer s H args us vs Q E hr he hb hv hs => codeAny_mono (F.run A outer s H args us vs Q E hr he hb hv hs) fun r s' h => match r, h with
    | .ok (.ret u), h => h
    | .ok .next, h => h
    | .ok .brk, h => h
    | .ok .cont, h => h
    | .error e, h => ⟨P, w, h⟩⟩
theorem exn_ok {K : PySem.W.Frag} {h : Heap} {mg : Str → Option Value} {x : Str} (KX : K.In h) (G : h.Ns mainGlobals mg) (c : (He.Fa.glo x).ok K = true) (d : (He.Fa.exc x).ok K = true) : Exn K mg x (He.ga K x) := by
  obtain ⟨a, b, e, f⟩ := He.exc_ok d
  exact ⟨He.glo_ok KX G c, a, b, e, f⟩
theorem ok_of {P : Program} {w : World} {K : PySem.W.Frag} {mg : Str → Option Value} {base : Heap} {x qual : Str} {st : Stmt} {f : Addr} {fd : FuncData} {N ps : List Str} {k : Nat} {sp : Sp} {T : XK → TS} {dvs : List V} (F : FunD K x qual (defArgs st) (defBody st) (defScope st) dvs [] f fd) (S : FnScope N ps (defScope st))
    (len : ∀ vs H Q E, sp vs H Q E → vs.length = ps.length)
    (body : ∀ (cdv : Value) (A : Around) (outer : List Env) (s : Shared) (H : Hp) (E : XK), Room k (A.deeper (envOfC qual (defScope st) s.heap.objs.size f cdv)) → PSs (cxD P w K mg base N qual st f cdv A outer s H E) (defBody st) (T E))
    (read : ∀ vs H Q E, sp vs H Q E → T E { nx := fun _ H' => Q .non H', rt := Q } (start N vs) H) : FnOk P w K mg base (L2.CX P w) (k + 1) f fd ps sp :=
  F.ok S len fun cdv A outer s H vs Q E hr h => ⟨T E, body cdv A outer s H E hr, read vs H Q E h⟩
/-! ### further facts of the written part -/
inductive Xf where
  | ins (C : Str) | kit (C D : Str) (b : Bool) | kitT (C : Str) (n : String) (b : Bool) | kitB (n : String) (D : Str) (b : Bool) | tup (x : Str) (vs : List He.Dv) | exc (C : Str) | mk0 (C : Str)
def Xf.ok (K : PySem.W.Frag) : Xf → Bool
  | .ins C => He.eqO (PySem.W.findIn K (.ref (He.ga K C)) "__class__") (some (some (.builtin "object.__class__"))) && (He.eqO (PySem.W.specialIn K (.builtin "object.__class__") "__get__") (some (some (.builtin "getset_descriptor.__get__"))) &&
      (decide (PySem.W.takesIn K (.builtin "object.__class__") = some true) && decide (PySem.W.mroIn K (He.ga K C) (.type "object") = some true)))
  | .kit C D b => decide (PySem.W.kitOne K (.ref (He.ga K C)) (.ref (He.ga K D)) = some b)
  | .kitT C n b => decide (PySem.W.kitOne K (.ref (He.ga K C)) (.type n) = some b)
  | .kitB n D b => decide (PySem.W.kitOne K (.type n) (.ref (He.ga K D)) = some b)
  | .tup x vs => He.tupB K x vs
  | .mk0 C => PySem.W.makesIn K (He.ga K C) && (He.eqO (PySem.W.findIn K (.ref (He.ga K C)) "__init__") (some (some (.builtin "object.__init__"))) && (decide (PySem.W.mroIn K (He.ga K C) (.type "object") = some true) && PySem.W.keepIn K (.ref (He.ga K C))))
  | .exc C => He.eqO (PySem.W.findIn K (.ref (He.ga K C)) "__getattribute__") (some (some (.builtin "BaseException.__getattribute__"))) && (He.eqO (PySem.W.findIn K (.ref (He.ga K C)) "__getattr__") (some none) &&
      (decide (PySem.W.subIn K (.ref (He.ga K C)) (.type "BaseException") = some true) && (PySem.W.hasDictIn K (He.ga K C) && (He.eqO (PySem.W.findIn K (.ref (He.ga K C)) "__class__") (some (some (.builtin "object.__class__"))) &&
      (He.eqO (PySem.W.specialIn K (.builtin "object.__class__") "__get__") (some (some (.builtin "getset_descriptor.__get__"))) && (decide (PySem.W.takesIn K (.builtin "object.__class__") = some true) && decide (PySem.W.mroIn K (He.ga K C) (.type "object") = some true)))))))
abbrev AlX : Type := Bool × He.AlD
def obsX (fa : List He.Fa) (fn : List He.DefD) (xf : List Xf) (K : PySem.W.Frag) : AlX := (xf.all fun f => f.ok K, He.obsD fa fn K)
structure SaysX (fa : List He.Fa) (fn : List He.DefD) (xf : List Xf) (K : PySem.W.Frag) : Prop where
  d : He.SaysD fa fn K
  x : (xf.all fun f => f.ok K) = true
/-! ### what the module's names reach, each once; seen is a row of bits -/
def seeX (acc : List Addr × List Addr × Nat) (b : Addr) : List Addr × List Addr × Nat :=
  if Nat.beq (Nat.land (Nat.shiftRight acc.2.2 b) 1) 0 then (b :: acc.1, b :: acc.2.1, Nat.lor acc.2.2 (Nat.shiftLeft 1 b)) else acc
def growX (g : Addr → Option Obj) (st : List Addr × List Addr × Nat) : List Addr × List Addr × Nat :=
  st.1.foldl (fun acc a => match g a with
    | some o => (He.refsD o).foldl seeX acc
    | none => acc) ([], st.2.1, st.2.2)
def stX (g : Addr → Option Obj) : Nat → List Addr × List Addr × Nat
  | 0 => ([mainGlobals], [mainGlobals], Nat.shiftLeft 1 mainGlobals)
  | n + 1 => growX g (stX g n)
def asX (g : Addr → Option Obj) (n : Nat) : List Addr := (stX g n).2.1.reverse
def obsXG (n : Nat) (fa : List He.Fa) (fn : List He.DefD) (xf : List Xf) (g : Addr → Option Obj) : AlX := obsX fa fn xf (He.frG g (asX g n))
def hookX (n : Nat) (fa : List He.Fa) (fn : List He.DefD) (xf : List Xf) : PySem.W.Hook where
  α := AlX
  obs := fun s => obsXG n fa fn xf s.heap.get?
  val := fun _ => (true, He.valD fn)
  says := fun _ h => ∃ K : PySem.W.Frag, K.In h ∧ SaysX fa fn xf K
  of := fun _ s e => ⟨He.frG s.heap.get? (asX s.heap.get? n), He.frG_in, ⟨congrArg (fun z : AlX => z.2) e, congrArg (fun z : AlX => z.1) e⟩⟩
  keeps := fun _ _ _ ⟨K, hK, c⟩ k => ⟨K, PySem.W.Frag.In.keeps hK k, c⟩
theorem obsXG_eq {n : Nat} {fa : List He.Fa} {fn : List He.DefD} {xf : List Xf} {g : Addr → Option Obj} {s : Shared} (h : ∀ a, g a = s.heap.get? a) : obsXG n fa fn xf g = (hookX n fa fn xf).obs s := by
  have e : g = s.heap.get? := funext h
  rw [e] <;> rfl
section
variable {fa : List He.Fa} {fn : List He.DefD} {xf : List Xf} {K : PySem.W.Frag}
theorem SaysX.fact (c : SaysX fa fn xf K) (i : Nat) {f : He.Fa} (h : fa[i]? = some f := by rfl) : f.ok K = true := c.d.fact i h
theorem SaysX.def_ (c : SaysX fa fn xf K) (i : Nat) {d : He.DefD} (h : fn[i]? = some d := by rfl) : ∃ fd, FunD K d.name d.qual d.params d.body d.scope (d.dvs K) (d.kws K) (He.fAd K d.at_) fd := c.d.def_ i h
theorem SaysX.ext (c : SaysX fa fn xf K) (i : Nat) {f : Xf} (h : xf[i]? = some f := by rfl) : f.ok K = true := List.all_eq_true.mp c.x f (List.mem_of_getElem? h)
end
theorem ins_ok {K : PySem.W.Frag} {C : Str} (c : (Xf.ins C).ok K = true) : HasIns K C := by
  obtain ⟨c1, c⟩ := He.ba c
  obtain ⟨c2, c⟩ := He.ba c
  obtain ⟨c3, c4⟩ := He.ba c
  exact ⟨He.eqO_ok c1, He.eqO_ok c2, of_decide_eq_true c3, of_decide_eq_true c4⟩
theorem kit_ok {K : PySem.W.Frag} {C D : Str} {b : Bool} (c : (Xf.kit C D b).ok K = true) : HasKit K C D b := ⟨of_decide_eq_true c⟩
theorem hexc_ok {K : PySem.W.Frag} {C : Str} (c : (Xf.exc C).ok K = true) : HasExc K C := by
  obtain ⟨c1, c⟩ := He.ba c
  obtain ⟨c2, c⟩ := He.ba c
  obtain ⟨c3, c⟩ := He.ba c
  obtain ⟨c4, c⟩ := He.ba c
  obtain ⟨c5, c⟩ := He.ba c
  obtain ⟨c6, c⟩ := He.ba c
  obtain ⟨c7, c8⟩ := He.ba c
  exact ⟨⟨He.eqO_ok c1, He.eqO_ok c2, of_decide_eq_true c3, c4, He.eqO_ok c5, He.eqO_ok c6, of_decide_eq_true c7, of_decide_eq_true c8⟩⟩
theorem kitT_ok {K : PySem.W.Frag} {C : Str} {t : String} {b : Bool} (c : (Xf.kitT C t b).ok K = true) : HasKitT K C t b := ⟨of_decide_eq_true c⟩
theorem hexm_ok {K : PySem.W.Frag} {C D : Str} {b : Bool} (c : (He.Fa.exm C D b).ok K = true) : HasExm K C D b := ⟨He.exm_ok c⟩
theorem mk0_ok {K : PySem.W.Frag} {C : Str} (c : (Xf.mk0 C).ok K = true) : Mk0 K (He.ga K C) := by
  obtain ⟨c1, c⟩ := He.ba c
  obtain ⟨c2, c⟩ := He.ba c
  obtain ⟨c3, c4⟩ := He.ba c
  exact ⟨c1, He.eqO_ok c2, of_decide_eq_true c3, c4⟩
theorem tup_ok {K : PySem.W.Frag} {x : Str} {vs : List He.Dv} (c : (Xf.tup x vs).ok K = true) : HasTup K x (vs.map (He.Dv.v K)) := ⟨fun H => He.tupB_ok c H⟩
end Fo
namespace Fo
open PySem PySem.Spec PyProof.Rows L2
abbrev W_ : PySem.W.OpenLaw := PySem.Challenge.rw_foretell_k22_whole_no_worse
def top (i : Nat) : Stmt := PySem.Challenge.pw_foretell_k22_whole_no_worse.main.body.getD i (.Pass ⟨0, 0, 0, 0⟩)
abbrev s_is_whole : Stmt := top 7
abbrev N_is_whole : List Str := ["thing"]
theorem sc_is_whole : FnScope N_is_whole ["thing"] (defScope s_is_whole) := ⟨rfl, rfl, rfl, by decide +kernel, rfl, by decide +kernel, by decide +kernel⟩
abbrev s_is_bit : Stmt := top 8
abbrev N_is_bit : List Str := ["thing"]
theorem sc_is_bit : FnScope N_is_bit ["thing"] (defScope s_is_bit) := ⟨rfl, rfl, rfl, by decide +kernel, rfl, by decide +kernel, by decide +kernel⟩
abbrev s_is_chance : Stmt := top 9
abbrev N_is_chance : List Str := ["thing"]
theorem sc_is_chance : FnScope N_is_chance ["thing"] (defScope s_is_chance) := ⟨rfl, rfl, rfl, by decide +kernel, rfl, by decide +kernel, by decide +kernel⟩
abbrev s_checked_bit : Stmt := top 10
abbrev N_checked_bit : List Str := ["thing"]
theorem sc_checked_bit : FnScope N_checked_bit ["thing"] (defScope s_checked_bit) := ⟨rfl, rfl, rfl, by decide +kernel, rfl, by decide +kernel, by decide +kernel⟩
abbrev s_checked_chance : Stmt := top 11
abbrev N_checked_chance : List Str := ["thing"]
theorem sc_checked_chance : FnScope N_checked_chance ["thing"] (defScope s_checked_chance) := ⟨rfl, rfl, rfl, by decide +kernel, rfl, by decide +kernel, by decide +kernel⟩
abbrev s_gives : Stmt := top 12
abbrev N_gives : List Str := ["chance", "bit", "c"]
theorem sc_gives : FnScope N_gives ["chance", "bit"] (defScope s_gives) := ⟨rfl, rfl, rfl, by decide +kernel, rfl, by decide +kernel, by decide +kernel⟩
abbrev s_Mixer_init : Stmt := inClass (top 17) 0
abbrev N_Mixer_init : List Str := ["self", "many"]
theorem sc_Mixer_init : FnScope N_Mixer_init ["self", "many"] (defScope s_Mixer_init) := ⟨rfl, rfl, rfl, by decide +kernel, rfl, by decide +kernel, by decide +kernel⟩
abbrev s_Mixer_mixed : Stmt := inClass (top 17) 2
abbrev N_Mixer_mixed : List Str := ["self", "chances", "total", "weight", "chance"]
theorem sc_Mixer_mixed : FnScope N_Mixer_mixed ["self", "chances"] (defScope s_Mixer_mixed) := ⟨rfl, rfl, rfl, by decide +kernel, rfl, by decide +kernel, by decide +kernel⟩
abbrev s_Mixer_learn : Stmt := inClass (top 17) 3
abbrev N_Mixer_learn : List Str := ["self", "chances", "bit", "b", "parts", "whole", "many", "grown", "over", "weight", "chance", "part", "one"]
theorem sc_Mixer_learn : FnScope N_Mixer_learn ["self", "chances", "bit"] (defScope s_Mixer_learn) := ⟨rfl, rfl, rfl, by decide +kernel, rfl, by decide +kernel, by decide +kernel⟩
abbrev s_Lchance : Stmt := top 19
abbrev N_Lchance : List Str := ["_law_cell", "_law_k", "_law_prime", "_law_number", "_law_way"]
theorem sc_Lchance : FnScope N_Lchance ["_law_cell", "_law_k"] (defScope s_Lchance) := ⟨rfl, rfl, rfl, by decide +kernel, rfl, by decide +kernel, by decide +kernel⟩
abbrev s_Lchances : Stmt := top 20
abbrev N_Lchances : List Str := ["_law_cell", "_law_many", "_law_k"]
theorem sc_Lchances : FnScope N_Lchances ["_law_cell", "_law_many"] (defScope s_Lchances) := ⟨rfl, rfl, rfl, by decide +kernel, rfl, by decide +kernel, by decide +kernel⟩
abbrev s_Lgives : Stmt := top 21
abbrev N_Lgives : List Str := ["_law_chance_here", "_law_bit"]
theorem sc_Lgives : FnScope N_Lgives ["_law_chance_here", "_law_bit"] (defScope s_Lgives) := ⟨rfl, rfl, rfl, by decide +kernel, rfl, by decide +kernel, by decide +kernel⟩
abbrev s_Ldrawn : Stmt := top 22
abbrev N_Ldrawn : List Str := ["_law_cell", "_law_chances_here", "_law_bit", "_law_last", "_law_way", "_law_best", "_law_k"]
theorem sc_Ldrawn : FnScope N_Ldrawn ["_law_cell", "_law_chances_here", "_law_bit", "_law_last"] (defScope s_Ldrawn) := ⟨rfl, rfl, rfl, by decide +kernel, rfl, by decide +kernel, by decide +kernel⟩
abbrev s_law : Stmt := top 23
abbrev N_law : List Str := ["_law_script", "_law_cells", "_law_many", "_law_begin", "_law_knows", "_law_run", "_law_mixer", "_law_left", "_law_right", "_law_look", "_law_k", "_law_chances_here", "_law_bit", "_law_drawn_here", "_law_found", "_law_cell"]
theorem sc_law : FnScope N_law ["_law_script"] (defScope s_law) := ⟨rfl, rfl, rfl, by decide +kernel, rfl, by decide +kernel, by decide +kernel⟩
def fa : List He.Fa := [.cls "Mixer", .noat "Mixer" "shares", .free "isinstance", .free "int", .free "bool", .int "FIRST" 1099511627776, .free "zip", .free "sum", .glo "is_whole", .int "LEAST" 32768, .int "ONE" 16777216, .free "range", .glo "_law_chance", .free "len", .glo "_law_gives", .glo "is_bit", .glo "NoBit", .exc "NoBit", .glo "is_chance", .glo "NoChance", .exc "NoChance", .glo "checked_chance", .glo "checked_bit", .free "max", .glo "gives", .int "KEPT" 31, .int "FIGURES" 48, .free "list", .glo "Mixer", .glo "_law_chances", .glo "_law_drawn", .meth "Mixer" "mixed", .meth "Mixer" "learn", .mkr "Mixer", .glo "law"]
def fn : List He.DefD := [⟨("is_whole", none), "is_whole", "is_whole", defArgs s_is_whole, defBody s_is_whole, defScope s_is_whole, [], []⟩,
  ⟨("is_bit", none), "is_bit", "is_bit", defArgs s_is_bit, defBody s_is_bit, defScope s_is_bit, [], []⟩,
  ⟨("is_chance", none), "is_chance", "is_chance", defArgs s_is_chance, defBody s_is_chance, defScope s_is_chance, [], []⟩,
  ⟨("checked_bit", none), "checked_bit", "checked_bit", defArgs s_checked_bit, defBody s_checked_bit, defScope s_checked_bit, [], []⟩,
  ⟨("checked_chance", none), "checked_chance", "checked_chance", defArgs s_checked_chance, defBody s_checked_chance, defScope s_checked_chance, [], []⟩,
  ⟨("gives", none), "gives", "gives", defArgs s_gives, defBody s_gives, defScope s_gives, [], []⟩,
  ⟨("Mixer", some "__init__"), "__init__", "Mixer.__init__", defArgs s_Mixer_init, defBody s_Mixer_init, defScope s_Mixer_init, [], []⟩,
  ⟨("Mixer", some "mixed"), "mixed", "Mixer.mixed", defArgs s_Mixer_mixed, defBody s_Mixer_mixed, defScope s_Mixer_mixed, [], []⟩,
  ⟨("Mixer", some "learn"), "learn", "Mixer.learn", defArgs s_Mixer_learn, defBody s_Mixer_learn, defScope s_Mixer_learn, [], []⟩,
  ⟨("_law_chance", none), "_law_chance", "_law_chance", defArgs s_Lchance, defBody s_Lchance, defScope s_Lchance, [], []⟩,
  ⟨("_law_chances", none), "_law_chances", "_law_chances", defArgs s_Lchances, defBody s_Lchances, defScope s_Lchances, [], []⟩,
  ⟨("_law_gives", none), "_law_gives", "_law_gives", defArgs s_Lgives, defBody s_Lgives, defScope s_Lgives, [], []⟩,
  ⟨("_law_drawn", none), "_law_drawn", "_law_drawn", defArgs s_Ldrawn, defBody s_Ldrawn, defScope s_Ldrawn, [], []⟩,
  ⟨("law", none), "law", "law", defArgs s_law, defBody s_law, defScope s_law, [], []⟩]
def xf : List Xf := []
def hk : PySem.W.Hook := hookX 6 fa fn xf
def ob (s : PySem.W.SharedT) : AlX := obsXG 6 fa fn xf (HandSHeadRun.getT s)
theorem ob_eq (s : PySem.W.SharedT) : ob s = hk.obs s.abs := obsXG_eq (HandSHeadRun.getT_eq s)
def loose : List Str := (["ForetellError", "NoChance", "NoBit", "ONE", "LEAST", "is_whole", "is_bit", "is_chance", "checked_bit", "checked_chance", "gives", "FIRST", "FIGURES", "KEPT", "Mixer"] : List Str) ++ (["_law_chance", "_law_chances", "_law_gives", "_law_drawn"] : List Str)
theorem run (w : World) : HandSHeadRun.RunEq W_.row (PySem.W.view W_.row.prog [23]) hk ob 4060 loose w := by
  intro os
  kernel_rfl
end Fo
namespace Fo
open PySem PySem.Spec PyProof.Rows L2
local macro_rules
  | `(tactic| walk_at "rfl!") => `(tactic| exact rfl)
local macro_rules
  | `(tactic| walk_at "lk0") => `(tactic| first
    | with_reducible assumption
    | (with_reducible refine' lkF ?a ?b; (case a => with_reducible assumption); (case b => walk_at "sm")))
  | `(tactic| walk_at "ne") => `(tactic| first
    | with_reducible assumption
    | (with_reducible refine' Ne.symm ?a; (case a => with_reducible assumption))
    | (with_reducible refine' ne_of_noneF ?a ?b; (case a => with_reducible assumption); (case b => walk_at "lk0"))
    | (with_reducible refine' Ne.symm (ne_of_noneF ?a ?b); (case a => with_reducible assumption); (case b => walk_at "lk0")))
  | `(tactic| walk_at "nm") => `(tactic| first
    | with_reducible assumption
    | exact id
    | (with_reducible show ¬ (_ = _); walk_at "ne")
    | (with_reducible show ¬ (_ ∨ _); refine' not_or.mpr (And.intro ?a ?b); (case a => walk_at "nm"); (case b => walk_at "nm")))
  | `(tactic| walk_at "lk") => `(tactic| first
    | with_reducible assumption
    | with_reducible exact upd_same
    | (with_reducible refine' lkF ?a ?b; (case a => with_reducible assumption); (case b => walk_at "sm"))
    | (with_reducible refine' SameX.lk ?a ?b ?c; (case a => with_reducible assumption); (case b => walk_at "nm"); (case c => walk_at "lk"))
    | (with_reducible refine' lk_newF ?a ?b; (case a => with_reducible assumption); (case b => walk_at "lk"))
    | (with_reducible refine' lk_mut ?a ?b; (case a => walk_at "ne"); (case b => walk_at "lk")))
  | `(tactic| walk_at "sq") => `(tactic| first
    | with_reducible assumption
    | with_reducible exact sq_of upd_same
    | (with_reducible refine' sq_of ?a; (case a => with_reducible assumption))
    | (with_reducible refine' sqF ?a ?b; (case a => with_reducible assumption); (case b => walk_at "sm"))
    | (with_reducible refine' sqLF ?a ?b; (case a => with_reducible assumption); (case b => walk_at "sm"))
    | (with_reducible refine' SameX.seq ?a ?b ?c; (case a => with_reducible assumption); (case b => walk_at "nm"); (case c => walk_at "sq"))
    | (with_reducible refine' sq_newF ?a ?b; (case a => with_reducible assumption); (case b => walk_at "sq"))
    | (with_reducible refine' sq_of ?a; (case a => walk_at "lk")))
  | `(tactic| walk_at "tq") => `(tactic| first
    | with_reducible assumption
    | with_reducible exact stt_of upd_same
    | (with_reducible refine' stt_of ?a; (case a => with_reducible assumption))
    | (with_reducible refine' tqF ?a ?b; (case a => with_reducible assumption); (case b => walk_at "sm"))
    | (with_reducible refine' tqLF ?a ?b; (case a => with_reducible assumption); (case b => walk_at "sm"))
    | (with_reducible refine' SameX.tup ?a ?b ?c; (case a => with_reducible assumption); (case b => walk_at "nm"); (case c => walk_at "tq"))
    | (with_reducible refine' st_newF ?a ?b; (case a => with_reducible assumption); (case b => walk_at "tq"))
    | (with_reducible refine' stt_of ?a; (case a => walk_at "lk")))
  | `(tactic| walk_at "sm") => `(tactic| first
    | with_reducible assumption
    | with_reducible exact L2.Same.refl _
    | (with_reducible refine' same_newF ?a ?b; (case a => with_reducible assumption); (case b => walk_at "sm"))
    | (with_reducible refine' same_mutF ?a ?b; (case a => with_reducible assumption); (case b => walk_at "sm"))
    | (with_reducible refine' same_transF ?a ?b; (case a => with_reducible assumption); (case b => walk_at "sm")))
  | `(tactic| walk_at "pf") => `(tactic| first
    | exact putF_hit
    | exact putF_nil
    | exact putF_far (by decide) (by walk_at "pf"))
  | `(tactic| walk_at "ix") => `(tactic| (simp only [at0, at1, at2, at3]; exact rfl))
  | `(tactic| walk_at "sz1") => `(tactic| first
    | decide
    | (simp only [List.length_cons, List.length_nil]; decide))
  | `(tactic| walk_at "sz") => `(tactic| first
    | with_reducible assumption
    | (refine Nat.le_trans (m := 1000000) ?_ (by decide); (try simp only [List.length_append, List.length_map, List.length_cons, List.length_nil, List.length_replicate, List.length_reverse, List.length_take, List.length_drop, List.length_set]); omega))
local macro_rules
  | `(tactic| walk_at "m64") => `(tactic| first
    | exact Or.inr ⟨by decide, by decide⟩
    | exact Or.inl ⟨by decide, by decide⟩
    | exact Or.inr ⟨by omega, by omega⟩
    | exact Or.inl ⟨by omega, by omega⟩)
local macro_rules
  | `(tactic| walk_at "go1") => `(tactic| first
    | ((with_reducible refine' g_var ?h ?_); (case h => exact rfl))
    | with_reducible refine g_c ?_
    | with_reducible refine g_op ?_
    | with_reducible refine g_cons ?_
    | with_reducible refine g_nil ?_
    | with_reducible refine g_cb ?_
    | with_reducible refine g_plus ?_
    | with_reducible refine g_minus ?_
    | ((with_reducible refine' g_rest ?h ?_); (case h => decide))
    | ((with_reducible refine' g_mul ?h ?_); (case h => walk_at "m64"))
    | with_reducible refine g_lt ?_
    | with_reducible refine g_le ?_
    | with_reducible refine g_gt ?_
    | with_reducible refine g_ge ?_
    | with_reducible refine g_same ?_
    | with_reducible refine g_diff ?_
    | with_reducible refine g_sameS ?_
    | with_reducible refine g_diffS ?_
    | with_reducible refine g_test ?_
    | with_reducible refine g_ebl ?_
    | with_reducible refine g_eint ?_
    | with_reducible refine g_tru ?_
    | with_reducible refine g_truB ?_
    | with_reducible refine g_seq ?_
    | with_reducible refine g_next ?_
    | with_reducible refine g_asg ?_
    | with_reducible refine g_asgT ?_
    | with_reducible refine g_gcons ?_
    | with_reducible refine g_gname ?_
    | with_reducible refine g_gnil ?_
    | with_reducible refine g_gsub ?_
    | ((with_reducible refine' g_gtup ?h ?i ?_); (case h => walk_at "tq"); (case i => exact rfl))
    | with_reducible refine g_p15 ?_
    | with_reducible refine g_p30 ?_
    | with_reducible refine g_sh15 ?_
    | with_reducible refine g_sh16 ?_
    | with_reducible refine g_sh23 ?_
    | with_reducible refine g_sh24 ?_
    | with_reducible refine g_sh40 ?_
    | with_reducible refine g_sh48 ?_
    | with_reducible refine g_p60 ?_
    | ((with_reducible refine' g_floor ?h ?_); (case h => exact ⟨by decide, by decide⟩))
    | ((with_reducible refine' g_asgn ?h ?_); (case h => repeat (first | exact SetR.zero | apply SetR.succ)))
    | with_reducible refine g_if ?_
    | with_reducible refine g_ret ?_
    | with_reducible refine g_retN ?_
    | with_reducible refine g_drop ?_
    | with_reducible refine g_and ?_
    | with_reducible refine g_or ?_
    | with_reducible refine g_not ?_
    | with_reducible refine g_andV ?_
    | with_reducible refine g_orV ?_
    | with_reducible refine g_notV ?_
    | with_reducible refine g_ifT ?_
    | with_reducible refine g_ifF ?_
    | with_reducible refine g_ifNT ?_
    | with_reducible refine g_ifNF ?_
    | with_reducible refine g_fun ?_
    | with_reducible refine g_new ?_
    | with_reducible refine g_on1 ?_
    | with_reducible refine g_on2 ?_
    | with_reducible refine g_on3 ?_
    | with_reducible refine g_on4 ?_
    | with_reducible refine g_on31 ?_
    | with_reducible refine g_on42 ?_
    | with_reducible refine g_on41 ?_
    | with_reducible refine g_bm ?_
    | with_reducible refine g_m1 ?_
    | with_reducible refine g_k1 ?_
    | with_reducible refine g_m2 ?_
    | with_reducible refine g_k2 ?_
    | with_reducible refine g_m3 ?_
    | with_reducible refine g_k3 ?_
    | with_reducible refine g_m4 ?_
    | with_reducible refine g_k4 ?_
    | with_reducible refine g_m5 ?_
    | with_reducible refine g_k5 ?_
    | with_reducible refine g_bm0 ?_
    | with_reducible refine g_fld ?_
    | with_reducible refine g_sto ?_
    | ((with_reducible refine' g_aug ?h ?_); (case h => exact rfl))
    | with_reducible refine g_ip ?_
    | with_reducible refine g_lst ?_
    | with_reducible refine g_tup ?_
    | ((with_reducible refine' g_lstK ?h ?_); (case h => walk_at "sz"))
    | ((with_reducible refine' g_tupK ?h ?_); (case h => walk_at "sz"))
    | with_reducible refine g_un ?_
    | with_reducible refine g_forL ?_
    | with_reducible refine g_forT ?_
    | with_reducible refine g_forR1 ?_
    | with_reducible refine g_forR2 ?_
    | with_reducible refine g_forE ?_
    | with_reducible refine g_forZ ?_
    | with_reducible refine g_lcZ ?_
    | with_reducible refine g_forR3 ?_
    | with_reducible refine g_lcR3 ?_
    | with_reducible refine g_mask1 ?_
    | with_reducible refine g_bitand ?_
    | with_reducible refine g_lcL ?_
    | with_reducible refine g_lcT ?_
    | with_reducible refine g_lcR1 ?_
    | with_reducible refine g_lcR2 ?_
    | with_reducible refine g_new0 ?_
    | with_reducible refine g_neg ?_
    | with_reducible refine g_sl ?_
    | with_reducible refine g_part ?_
    | with_reducible refine g_nopart ?_
    | with_reducible refine g_chain ?_
    | with_reducible refine g_rz ?_
    | with_reducible refine g_isno ?_
    | with_reducible refine g_notno ?_
    | with_reducible refine g_max2 ?_
    | with_reducible refine g_min2 ?_
    | with_reducible refine g_intI ?_
    | with_reducible refine g_intB ?_
    | with_reducible refine g_bits ?_
    | with_reducible refine g_B ?_
    | with_reducible refine g_dget ?_
    | with_reducible refine g_din ?_
    | with_reducible refine g_dnotin ?_
    | with_reducible refine g_mthd ?_
    | with_reducible refine g_fldaug ?_
    | with_reducible refine g_iadd ?_
    | with_reducible refine g_isub ?_
    | with_reducible refine g_whK ?_
    | ((with_reducible refine' g_fldA ?h ?i ?c ?o ?_); (case h => walk_at "lk"); (case i => exact rfl); (case c => infer_instance); (case o => infer_instance))
    | ((with_reducible refine' g_stoU ?i ?e ?c ?o ?_); (case i => walk_at "sz1"); (case e => walk_at "pf"); (case c => infer_instance); (case o => infer_instance))
    | ((with_reducible refine' g_stoA ?h ?i ?e ?c ?o ?_); (case h => walk_at "lk"); (case i => walk_at "sz1"); (case e => walk_at "pf"); (case c => infer_instance); (case o => infer_instance))
    | ((with_reducible refine' g_augA ?h ?i ?c ?o ?_); (case h => walk_at "lk"); (case i => exact rfl); (case c => infer_instance); (case o => infer_instance))
    | ((with_reducible refine' g_putU ?i ?e ?_); (case i => walk_at "sz1"); (case e => walk_at "pf"))
    | ((with_reducible refine' g_putA ?h ?i ?e ?_); (case h => walk_at "lk"); (case i => walk_at "sz1"); (case e => walk_at "pf"))
    | ((with_reducible refine' g_one ?h ?i ?_); (case h => walk_at "lk"); (case i => exact rfl))
    | ((with_reducible refine' g_ixL ?h ?i ?_); (case h => walk_at "sq"); (case i => walk_at "ix"))
    | ((with_reducible refine' g_ixT ?h ?i ?_); (case h => walk_at "tq"); (case i => walk_at "ix"))
    | ((with_reducible refine' g_tyL ?h ?_); (case h => walk_at "sq"))
    | with_reducible refine g_tyS ?_
    | ((with_reducible refine' g_lenL ?h ?_); (case h => walk_at "sq"))
    | ((with_reducible refine' g_lenT ?h ?_); (case h => walk_at "tq"))
    | ((with_reducible refine' g_listL ?h ?_); (case h => walk_at "sq"))
    | ((with_reducible refine' g_listT ?h ?_); (case h => walk_at "tq"))
    | ((with_reducible refine' g_tupleL ?h ?_); (case h => walk_at "sq"))
    | ((with_reducible refine' g_slL ?h ?_); (case h => walk_at "sq"))
    | ((with_reducible refine' g_append ?h ?i ?_); (case h => walk_at "lk"); (case i => walk_at "sz"))
    | ((with_reducible refine' g_reverse ?h ?_); (case h => walk_at "lk"))
    | ((with_reducible refine' g_clear ?h ?_); (case h => walk_at "lk"))
    | ((with_reducible refine' g_cat ?h ?i ?j ?_); (case h => walk_at "lk"); (case i => walk_at "lk"); (case j => walk_at "sz")))
local macro_rules
  | `(tactic| walk_at "go") => `(tactic| repeat walk_at "go1")
/-! numbers: a cell of the script; what is whole, a bit, a chance, a sign -/
def cell (ns : List Int) (k : Nat) : Int := ns.getD k 0
theorem ix_ints {ns : List Int} {k : Nat} (h : k < ns.length) : atI (ns.map V.int) (k : Int) = some (.int (ns.getD k 0)) := by
  refine atI_nat ?_
  rw [List.getElem?_map, List.getElem?_eq_getElem h, List.getD_eq_getElem?_getD, List.getElem?_eq_getElem h]
  rfl
def F_Lcell_at (K : PySem.W.Frag) : V → V → Hp → VK → XK → Prop := fun x y H Q _ => ∃ (a : Addr) (ns : List Int) (k : Nat), x = .ref a ∧ y = .int k ∧ SqL K H a (ns.map V.int) ∧ Q (.int (cell ns k)) H
abbrev sp_Lcell_at (K : PySem.W.Frag) : Sp := on2 (F_Lcell_at K)
/-- an int, and no truth -/
def wholeV : V → Bool
  | .int _ => true
  | _ => false
def TyW (K : PySem.W.Frag) (H : Hp) (x : V) : Prop := (∃ i, x = .int i) ∨ (∃ b, x = .bl b) ∨ (wholeV x = false ∧ ∃ tn, TyX K H x (.type tn) ∧ kitB tn "int" = some false)
def F_Lwhole (K : PySem.W.Frag) : V → Hp → VK → XK → Prop := fun x H Q _ => TyW K H x ∧ Q (.bl (wholeV x)) H
abbrev sp_Lwhole (K : PySem.W.Frag) : Sp := on1 (F_Lwhole K)
abbrev F_is_whole (K : PySem.W.Frag) : V → Hp → VK → XK → Prop := F_Lwhole K
abbrev sp_is_whole (K : PySem.W.Frag) : Sp := on1 (F_is_whole K)
def t_is_whole (K : PySem.W.Frag) (E : XK) : TS :=
  tRet (tAndV (tCB (rIsi2 K) (tCons (tVar 0) (tCons (tC (.ty "int")) (tNil)))) (tNotV (tCB (rIsi2 K) (tCons (tVar 0) (tCons (tC (.ty "bool")) (tNil))))))
theorem pure_is_whole (K : PySem.W.Frag) {x : V} {H : Hp} {Q : VK} {E : XK} (h : F_is_whole K x H Q E) : t_is_whole K E ⟨fun _ H' => Q .non H', Q, fun _ _ => False, fun _ _ => False⟩ [some x] H := by
  obtain ⟨ty, q⟩ := h
  unfold t_is_whole
  walk_at "go"
  rcases ty with ⟨i, rfl⟩ | ⟨b, rfl⟩ | ⟨e, tn, ty, hk⟩
  · refine g_isi (s := "") (tn := "int") (.base (.int i)) (b := true) (by decide +kernel) ?_
    walk_at "go"
    refine g_isi (s := "") (tn := "int") (.base (.int i)) (b := false) (by decide +kernel) ?_
    walk_at "go"
    exact q
  · refine g_isi (s := "") (tn := "bool") (.base (.bl b)) (b := true) (by decide +kernel) ?_
    walk_at "go"
    refine g_isi (s := "") (tn := "bool") (.base (.bl b)) (b := true) (by decide +kernel) ?_
    walk_at "go"
    exact q
  · refine g_isi (s := "") ty hk ?_
    walk_at "go"
    rw [e] at q
    exact q
/-- from a to b -/
def btw (a b : Int) : V → Bool
  | .int i => decide (a ≤ i) && decide (i ≤ b)
  | _ => false
theorem TyW.cases {K : PySem.W.Frag} {H : Hp} {x : V} (h : TyW K H x) : (∃ i, x = .int i) ∨ (wholeV x = false ∧ ∀ a b, btw a b x = false) := by
  rcases h with h | ⟨b, rfl⟩ | ⟨e, _⟩
  · exact .inl h
  · exact .inr ⟨rfl, fun _ _ => rfl⟩
  · refine .inr ⟨e, fun a b => ?_⟩
    cases x with
    | int i => cases e
    | _ => rfl
theorem TyW.int {K : PySem.W.Frag} {H : Hp} {i : Int} : TyW K H (.int i) := .inl ⟨i, rfl⟩
theorem TyW.same {K : PySem.W.Frag} {H H1 : Hp} {x : V} (s : ∀ tn, TyX K H x (.type tn) → TyX K H1 x (.type tn)) (h : TyW K H x) : TyW K H1 x := by
  rcases h with h | h | ⟨e, tn, t, k⟩
  · exact .inl h
  · exact .inr (.inl h)
  · exact .inr (.inr ⟨e, tn, s tn t, k⟩)
theorem btw_int {a b : Int} {x : V} (h : btw a b x = true) : ∃ i, x = .int i ∧ a ≤ i ∧ i ≤ b := by
  cases x with
  | int i =>
    rw [btw, Bool.and_eq_true, decide_eq_true_iff, decide_eq_true_iff] at h
    exact ⟨i, rfl, h⟩
  | _ => cases h
theorem tyx_same {K : PySem.W.Frag} {H H1 : Hp} {x : V} {t : Value} (s : Same H H1) (h : TyX K H x t) : TyX K H1 x t := by
  cases h with
  | base h =>
    refine .base ?_
    cases h with
    | non => exact .non
    | bl x => exact .bl x
    | int i => exact .int i
    | str x => exact .str x
    | flt x => exact .flt x
    | lst e => exact .lst (s _ _ e)
    | frz e => exact .frz (s _ _ e)
    | tup e => exact .tup (s _ _ e)
    | dK e => exact .dK (s _ _ e)
    | dT e => exact .dT (s _ _ e)
    | ins e c a b d m => exact .ins (s _ _ e) c a b d m
  | byt b => exact .byt b
  | set e => exact .set (s _ _ e)
  | kList e c => exact .kList e c
  | kTuple e c => exact .kTuple e c
  | kDict e c => exact .kDict e c
  | fTuple e => exact .fTuple (s _ _ e)
  | fDict e => exact .fDict (s _ _ e)
theorem tyw_same {K : PySem.W.Frag} {H H1 : Hp} {x : V} (s : Same H H1) (h : TyW K H x) : TyW K H1 x := h.same fun _ => tyx_same s
theorem ifB {A B : Prop} {b : Bool} (h1 : b = true → A) (h2 : b = false → B) : if b = true then A else B := difB h1 h2
def F_btw (K : PySem.W.Frag) (a b : Int) : V → Hp → VK → XK → Prop := fun x H Q _ => TyW K H x ∧ Q (.bl (btw a b x)) H
abbrev sp_is_bit (K : PySem.W.Frag) : Sp := on1 (F_btw K 0 1)
abbrev sp_is_chance (K : PySem.W.Frag) : Sp := on1 (F_btw K 32768 16744448)
def t_is_bit (K : PySem.W.Frag) (E : XK) : TS :=
  tRet (tAndV (tFun (sp_is_whole K) [] (fun _ => E) (tCons (tVar 0) (tNil))) (tChain (rLe) (rLe) (tC (.int 0)) (tVar 0) (tC (.int 1))))
theorem pure_is_bit (K : PySem.W.Frag) {x : V} {H : Hp} {Q : VK} {E : XK} (h : F_btw K 0 1 x H Q E) : t_is_bit K E ⟨fun _ H' => Q .non H', Q, fun _ _ => False, fun _ _ => False⟩ [some x] H := by
  obtain ⟨ty, q⟩ := h
  unfold t_is_bit
  walk_at "go"
  refine ⟨ty, ?_⟩
  rcases ty.cases with ⟨i, rfl⟩ | ⟨e1, e2⟩
  · walk_at "go"
    refine g_ifT ?_
    walk_at "go"
    refine dif (fun h => ?_) fun h => ?_
    · walk_at "go"
      rwa [btw, decide_eq_true h, Bool.true_and] at q
    · rwa [btw, decide_eq_false h, Bool.false_and] at q
  · rw [e1]
    rw [e2] at q
    walk_at "go"
    exact q
def t_is_chance (K : PySem.W.Frag) (E : XK) : TS :=
  tRet (tAndV (tFun (sp_is_whole K) [] (fun _ => E) (tCons (tVar 0) (tNil))) (tChain (rLe) (rLe) (tC (.int 32768)) (tVar 0) (tOp (rMinus) (tC (.int 16777216)) (tC (.int 32768)))))
theorem pure_is_chance (K : PySem.W.Frag) {x : V} {H : Hp} {Q : VK} {E : XK} (h : F_btw K 32768 16744448 x H Q E) : t_is_chance K E ⟨fun _ H' => Q .non H', Q, fun _ _ => False, fun _ _ => False⟩ [some x] H := by
  obtain ⟨ty, q⟩ := h
  unfold t_is_chance
  walk_at "go"
  refine ⟨ty, ?_⟩
  rcases ty.cases with ⟨i, rfl⟩ | ⟨e1, e2⟩
  · walk_at "go"
    refine g_ifT ?_
    walk_at "go"
    refine dif (fun h => ?_) fun h => ?_
    · walk_at "go"
      rwa [btw, decide_eq_true h, Bool.true_and] at q
    · rwa [btw, decide_eq_false h, Bool.false_and] at q
  · rw [e1]
    rw [e2] at q
    walk_at "go"
    exact q
abbrev sp_is_sign (K : PySem.W.Frag) : Sp := on1 (F_btw K 0 255)
/-- what a check hands on, what it refuses -/
def F_chk (K : PySem.W.Frag) (a b : Int) (C : Str) : V → Hp → VK → XK → Prop := fun x H Q E => TyW K H x ∧ (btw a b x = true → Q x H) ∧ (btw a b x = false → E (.ref (He.ga K C)) none H)
abbrev sp_checked_bit (K : PySem.W.Frag) : Sp := on1 (F_chk K 0 1 "NoBit")
abbrev sp_checked_chance (K : PySem.W.Frag) : Sp := on1 (F_chk K 32768 16744448 "NoChance")
theorem chk_int {K : PySem.W.Frag} {a b i : Int} {C : Str} {H : Hp} {Q : VK} {E : XK} (h : a ≤ i ∧ i ≤ b) (q : Q (.int i) H) : F_chk K a b C (.int i) H Q E :=
  ⟨.int, fun _ => q, fun e => by rw [btw, decide_eq_true h.1, decide_eq_true h.2] at e; cases e⟩
def t_checked_bit (K : PySem.W.Frag) (E : XK) : TS :=
  tSeq (tIfS (tNot (tTru K (tFun (sp_is_bit K) [] (fun _ => E) (tCons (tVar 0) (tNil))))) (tRz (fun cls d _ H => E cls d H) (He.ga K "NoBit")) (tNext))
  (tRet (tVar 0))
theorem pure_checked_bit (K : PySem.W.Frag) {x : V} {H : Hp} {Q : VK} {E : XK} (h : F_chk K 0 1 "NoBit" x H Q E) : t_checked_bit K E ⟨fun _ H' => Q .non H', Q, fun _ _ => False, fun _ _ => False⟩ [some x] H := by
  obtain ⟨ty, q, r⟩ := h
  unfold t_checked_bit
  walk_at "go"
  refine ⟨ty, ?_⟩
  walk_at "go"
  refine difNB (fun h => ?_) fun h => ?_
  · walk_at "go"
    exact r h
  · walk_at "go"
    exact q h
def t_checked_chance (K : PySem.W.Frag) (E : XK) : TS :=
  tSeq (tIfS (tNot (tTru K (tFun (sp_is_chance K) [] (fun _ => E) (tCons (tVar 0) (tNil))))) (tRz (fun cls d _ H => E cls d H) (He.ga K "NoChance")) (tNext))
  (tRet (tVar 0))
theorem pure_checked_chance (K : PySem.W.Frag) {x : V} {H : Hp} {Q : VK} {E : XK} (h : F_chk K 32768 16744448 "NoChance" x H Q E) : t_checked_chance K E ⟨fun _ H' => Q .non H', Q, fun _ _ => False, fun _ _ => False⟩ [some x] H := by
  obtain ⟨ty, q, r⟩ := h
  unfold t_checked_chance
  walk_at "go"
  refine ⟨ty, ?_⟩
  walk_at "go"
  refine difNB (fun h => ?_) fun h => ?_
  · walk_at "go"
    exact r h
  · walk_at "go"
    exact q h
def gave (c b : Int) : Int := if b = 1 then c else 16777216 - c
def F_gives (K : PySem.W.Frag) : V → V → Hp → VK → XK → Prop := fun x y H Q E => TyW K H x ∧ TyW K H y ∧ (btw 32768 16744448 x = false → E (.ref (He.ga K "NoChance")) none H) ∧ (btw 32768 16744448 x = true → btw 0 1 y = false → E (.ref (He.ga K "NoBit")) none H) ∧
  (∀ c b : Int, x = .int c → y = .int b → 32768 ≤ c → c ≤ 16744448 → 0 ≤ b → b ≤ 1 → Q (.int (gave c b)) H)
abbrev sp_gives (K : PySem.W.Frag) : Sp := on2 (F_gives K)
theorem gives_of {K : PySem.W.Frag} {H : Hp} {Q : VK} {E : XK} {c b : Int} (hc : 32768 ≤ c ∧ c ≤ 16744448) (hb : 0 ≤ b ∧ b ≤ 1) (q : Q (.int (gave c b)) H) : F_gives K (.int c) (.int b) H Q E := by
  have bt : ∀ {u v i : Int}, u ≤ i ∧ i ≤ v → btw u v (.int i) = true := fun h => by rw [btw, decide_eq_true h.1, decide_eq_true h.2]; rfl
  refine ⟨.int, .int, fun k => ?_, fun _ k => ?_, fun c' b' e1 e2 _ _ _ _ => ?_⟩
  · rw [bt hc] at k; cases k
  · rw [bt hb] at k; cases k
  · cases e1
    cases e2
    exact q
def t_gives (K : PySem.W.Frag) (E : XK) : TS :=
  tSeq (tAsg (tFun (sp_checked_chance K) [] (fun _ => E) (tCons (tVar 0) (tNil))) (gName 2))
  (tSeq (tIfS (tTest (tOp (rSame K) (tFun (sp_checked_bit K) [] (fun _ => E) (tCons (tVar 1) (tNil))) (tC (.int 1)))) (tRet (tVar 2)) (tNext))
  (tRet (tOp (rMinus) (tC (.int 16777216)) (tVar 2))))
theorem pure_gives (K : PySem.W.Frag) {x y : V} {H : Hp} {Q : VK} {E : XK} (h : F_gives K x y H Q E) : t_gives K E ⟨fun _ H' => Q .non H', Q, fun _ _ => False, fun _ _ => False⟩ [some x, some y, none] H := by
  obtain ⟨tx, ty, r1, r2, q⟩ := h
  unfold t_gives
  walk_at "go"
  refine ⟨tx, fun hx => ?_, r1⟩
  walk_at "go"
  refine ⟨ty, fun hy => ?_, r2 hx⟩
  obtain ⟨c, rfl, c1, c2⟩ := btw_int hx
  obtain ⟨b, rfl, b1, b2⟩ := btw_int hy
  have q := q c b rfl rfl c1 c2 b1 b2
  unfold gave at q
  walk_at "go"
  refine dif (fun h => ?_) fun h => ?_
  · rw [if_pos h] at q
    walk_at "go"
    exact q
  · rw [if_neg h] at q
    walk_at "go"
    exact q
/-! a step: a chance, a bit, of a cell -/
def stepC (n : Int) : Int :=
  let m := n % 1000000000000000
  if m / 2 % 7 < 3 then (if m / 2 % 7 = 0 then 32768 else if m / 2 % 7 = 1 then 16744448 else 8388608) else 32768 + ((m * m + 5 * m + 11) * 48271 % 2147483647) % 16711681
def stepB (n : Int) : Int := n % 1000000000000000 % 2
theorem stepC_ok (n : Int) : 32768 ≤ stepC n ∧ stepC n ≤ 16744448 := by
  unfold stepC
  simp only []
  split
  · split
    · decide
    · split <;> decide
  · omega
theorem stepB_ok (n : Int) : 0 ≤ stepB n ∧ stepB n ≤ 1 := by unfold stepB; omega
def F_Lstep (K : PySem.W.Frag) : V → Hp → VK → XK → Prop := fun x H Q _ => ∃ n : Int, x = .int n ∧ ∀ p H', H p = none → Same H H' → H' p = some (.tup [.int (stepC n), .int (stepB n)]) → Q (.ref p) H'
abbrev sp_Lstep (K : PySem.W.Frag) : Sp := on1 (F_Lstep K)/-! a mixer's shares -/
def dotS (ws cs : List Int) : Int := (List.zipWith (fun w c => w * c) ws cs).sum
def mixedS (ws cs : List Int) : Int := dotS ws cs / ws.sum
def partsS (ws cs : List Int) (b : Int) : List Int := List.zipWith (fun w c => w * gave c b) ws cs
def grownS (ps : List Int) : List Int := ps.map fun p => 31 * (ps.length : Int) * p + ps.sum
def overS (s : Int) : Int := if ((Builtin.Int.intBits s : Nat) : Int) - 48 > 0 then ((Builtin.Int.intBits s : Nat) : Int) - 48 else 0
def cutS (gs : List Int) : List Int := gs.map fun g => g / 2 ^ (overS gs.sum).toNat
def learnS (ws cs : List Int) (b : Int) : List Int := cutS (grownS (partsS ws cs b))
structure MOk (m : Nat) (ws : List Int) : Prop where
  len : ws.length = m
  m1 : 1 ≤ m
  m6 : m ≤ 6
  pos : ∀ w ∈ ws, 1 ≤ w
  sum : ws.sum < 281474976710656
structure COk (m : Nat) (cs : List Int) : Prop where
  len : cs.length = m
  all : ∀ c ∈ cs, 32768 ≤ c ∧ c ≤ 16744448
theorem sum_ge : ∀ {l : List Int}, (∀ x ∈ l, 1 ≤ x) → (l.length : Int) ≤ l.sum ∧ ∀ x ∈ l, x ≤ l.sum
  | [], _ => ⟨by simp, fun x h => nomatch h⟩
  | y :: l, h => by
    obtain ⟨a, b⟩ := sum_ge (l := l) fun x hx => h x (List.mem_cons_of_mem _ hx)
    have y1 := h y List.mem_cons_self
    refine ⟨by simp only [List.length_cons, List.sum_cons]; omega, fun x hx => ?_⟩
    rw [List.sum_cons]
    rcases List.mem_cons.mp hx with rfl | hx
    · omega
    · have := b x hx; omega
theorem sum_aff (a b : Int) : ∀ l : List Int, (l.map fun p => a * p + b).sum = a * l.sum + (l.length : Int) * b
  | [] => by simp
  | p :: l => by
    rw [List.map_cons, List.sum_cons, sum_aff a b l, List.sum_cons, List.length_cons, Int.mul_add]
    have : ((l.length + 1 : Nat) : Int) * b = (l.length : Int) * b + b := by rw [Int.natCast_add, Int.add_mul]; simp
    rw [this]
    omega
theorem sum_div (d : Int) (hd : 0 < d) : ∀ l : List Int, (l.map fun g => g / d).sum * d ≤ l.sum
  | [] => by simp
  | g :: l => by
    rw [List.map_cons, List.sum_cons, List.sum_cons, Int.add_mul]
    have := sum_div d hd l
    have := Int.ediv_mul_le g (Int.ne_of_gt hd)
    omega
theorem gave_ok {c b : Int} (h : 32768 ≤ c ∧ c ≤ 16744448) : 32768 ≤ gave c b ∧ gave c b ≤ 16744448 := by
  unfold gave
  split <;> omega
theorem zip_all {P Q R : Int → Prop} {f : Int → Int → Int} (hf : ∀ w c, P w → Q c → R (f w c)) : ∀ {ws cs : List Int}, (∀ w ∈ ws, P w) → (∀ c ∈ cs, Q c) → ∀ x ∈ List.zipWith f ws cs, R x
  | [], _, _, _, x, h => by simp at h
  | _ :: _, [], _, _, x, h => by simp at h
  | w :: ws, c :: cs, hw, hc, x, h => by
    rw [List.zipWith_cons_cons] at h
    rcases List.mem_cons.mp h with rfl | h
    · exact hf _ _ (hw _ List.mem_cons_self) (hc _ List.mem_cons_self)
    · exact zip_all hf (fun w h => hw w (List.mem_cons_of_mem _ h)) (fun c h => hc c (List.mem_cons_of_mem _ h)) x h
theorem parts_ok {m : Nat} {ws cs : List Int} (b : Int) (w : MOk m ws) (c : COk m cs) : (partsS ws cs b).length = m ∧ ∀ p ∈ partsS ws cs b, 1 ≤ p := by
  refine ⟨by unfold partsS; rw [List.length_zipWith, w.len, c.len]; omega, ?_⟩
  refine zip_all (P := fun w => 1 ≤ w) (Q := fun c => 32768 ≤ c ∧ c ≤ 16744448) (R := fun p => 1 ≤ p) (fun w c hw hc => ?_) w.pos c.all
  have := (gave_ok (b := b) hc).1
  have := Int.mul_le_mul hw this (by omega) (by omega)
  omega
theorem bits_pos {s : Int} (h : 0 < s) : 2 ^ (Builtin.Int.intBits s - 1) ≤ s ∧ s < 2 ^ Builtin.Int.intBits s ∧ 1 ≤ Builtin.Int.intBits s := by
  have e : Builtin.Int.intBits s = s.natAbs.log2 + 1 := by
    unfold Builtin.Int.intBits
    rw [if_neg (by simp; omega)]
  rw [e, Nat.add_sub_cancel]
  have hn : s.natAbs ≠ 0 := by omega
  have a := Nat.log2_self_le hn
  have b := (Nat.log2_lt (n := s.natAbs) (k := s.natAbs.log2 + 1) hn).mp (Nat.lt_succ_self _)
  have c : ∀ k : Nat, (2 : Int) ^ k = ((2 ^ k : Nat) : Int) := fun k => by simp
  rw [c, c]
  refine ⟨by omega, by omega, by omega⟩
/-- halved as often as is needed, no oftener -/
theorem over_ok {s : Int} (h : 0 < s) : s < 281474976710656 * 2 ^ (overS s).toNat ∧ (overS s ≠ 0 → 140737488355328 * 2 ^ (overS s).toNat ≤ s) ∧ 0 ≤ overS s := by
  obtain ⟨a, b, c⟩ := bits_pos h
  unfold overS
  generalize Builtin.Int.intBits s = k at a b c
  by_cases z : (k : Int) - 48 > 0
  · rw [if_pos z]
    have e : ((k : Int) - 48).toNat = k - 48 := by omega
    rw [e]
    have p1 : (2 : Int) ^ k = 281474976710656 * 2 ^ (k - 48) := by
      rw [show (281474976710656 : Int) = 2 ^ 48 from rfl, ← Int.pow_add]
      congr 1; omega
    have p2 : (2 : Int) ^ (k - 1) = 140737488355328 * 2 ^ (k - 48) := by
      rw [show (140737488355328 : Int) = 2 ^ 47 from rfl, ← Int.pow_add]
      congr 1; omega
    rw [← p1, ← p2]
    exact ⟨b, fun _ => a, by omega⟩
  · rw [if_neg z]
    refine ⟨?_, fun z => absurd rfl z, Int.le_refl _⟩
    have p : (2 : Int) ^ k ≤ 2 ^ 48 := by
      have c : ∀ k : Nat, (2 : Int) ^ k = ((2 ^ k : Nat) : Int) := fun k => by simp
      rw [c, c]
      exact Int.ofNat_le.mpr (Nat.pow_le_pow_right (by decide) (by omega))
    have : (2 : Int) ^ 48 = 281474976710656 := by decide
    simp
    omega
theorem grown_sum (ps : List Int) : (grownS ps).sum = 32 * (ps.length : Int) * ps.sum := by
  unfold grownS
  rw [sum_aff]
  rw [Int.mul_assoc, Int.mul_assoc]
  omega
theorem learn_ok {m : Nat} {ws cs : List Int} {b : Int} (w : MOk m ws) (c : COk m cs) : MOk m (learnS ws cs b) := by
  obtain ⟨pl, pp⟩ := parts_ok b w c
  unfold learnS
  generalize partsS ws cs b = ps at pl pp
  obtain ⟨s1, s2⟩ := sum_ge pp
  have m1 := w.m1
  have m6 := w.m6
  have gs := grown_sum ps
  have W : 1 ≤ ps.sum := by omega
  have S : 0 < (grownS ps).sum := by
    rw [gs, pl]
    exact Int.mul_pos (by omega) (by omega)
  obtain ⟨o1, o2, o3⟩ := over_ok S
  have hd : (0 : Int) < 2 ^ (overS (grownS ps).sum).toNat := Int.pow_pos (by decide)
  refine ⟨?_, m1, m6, fun x hx => ?_, ?_⟩
  · unfold cutS grownS
    rw [List.length_map, List.length_map, pl]
  · unfold cutS at hx
    obtain ⟨g, hg, rfl⟩ := List.mem_map.mp hx
    refine Int.le_ediv_of_mul_le hd ?_
    rw [Int.one_mul]
    have hW : ps.sum ≤ g := by
      unfold grownS at hg
      obtain ⟨p, hp, rfl⟩ := List.mem_map.mp hg
      have := pp p hp
      have : 0 ≤ 31 * (ps.length : Int) * p := Int.mul_nonneg (by omega) (by omega)
      omega
    by_cases z : overS (grownS ps).sum = 0
    · rw [z]
      have : (2 : Int) ^ (0 : Int).toNat = 1 := rfl
      omega
    · have o2 := o2 z
      have k : (grownS ps).sum ≤ 192 * ps.sum := by
        rw [gs]
        exact Int.mul_le_mul_of_nonneg_right (by omega) (by omega)
      generalize (2 : Int) ^ (overS (grownS ps).sum).toNat = d at o2 hd
      omega
  · unfold cutS
    have := sum_div _ hd (grownS ps)
    generalize (2 : Int) ^ (overS (grownS ps).sum).toNat = d at this o1 hd
    have : ((grownS ps).map fun g => g / d).sum * d < 281474976710656 * d := by omega
    exact Int.lt_of_mul_lt_mul_right this (by omega)
def MixAt (K : PySem.W.Frag) (H : Hp) (a dx : Addr) (ws : List Int) : Prop := ∃ p, H a = some (.ins (He.ga K "Mixer") dx [("shares", .ref p)]) ∧ H p = some (.lst (ws.map V.int))
theorem MixAt.same {K : PySem.W.Frag} {H H1 : Hp} {a dx : Addr} {ws : List Int} (h : MixAt K H a dx ws) (s : Same H H1) : MixAt K H1 a dx ws := by
  obtain ⟨p, h1, h2⟩ := h
  exact ⟨p, s _ _ h1, s _ _ h2⟩
theorem MixAt.keep {K : PySem.W.Frag} {M : Addr → Prop} {H H1 : Hp} {a dx : Addr} {ws : List Int} (h : MixAt K H a dx ws) (s : SameX M H H1) (na : ¬ M a) (nl : ∀ p xs, H p = some (.lst xs) → ¬ M p) : MixAt K H1 a dx ws := by
  obtain ⟨p, h1, h2⟩ := h
  exact ⟨p, s.kp _ _ na h1, s.kp _ _ (nl _ _ h2) h2⟩
theorem cdw48 {i j : Int} (h : 0 < j) (h2 : j < 281474976710656) : CDivW i j := ⟨h, by
  have : j.natAbs.log2 < 48 := (Nat.log2_lt (by omega)).mpr (by omega)
  omega⟩
theorem dot_take {ws cs : List Int} {i : Nat} {w c : Int} (f : Int → Int → Int) (hw : ws[i]? = some w) (hc : cs[i]? = some c) : List.zipWith f (ws.take (i + 1)) (cs.take (i + 1)) = List.zipWith f (ws.take i) (cs.take i) ++ [f w c] := by
  have h1 := (List.getElem?_eq_some_iff.mp hw).1
  have h2 := (List.getElem?_eq_some_iff.mp hc).1
  rw [List.take_add_one, List.take_add_one, hw, hc, List.zipWith_append (by simp only [List.length_take]; omega)]
  rfl
theorem zip_ints (g : Int → Int → Int) : ∀ ws cs : List Int, List.zipWith (fun w c => V.int (g w c)) ws cs = (List.zipWith g ws cs).map V.int
  | [], _ => by simp
  | _ :: _, [] => by simp
  | w :: ws, c :: cs => by rw [List.zipWith_cons_cons, List.zipWith_cons_cons, List.map_cons, zip_ints g ws cs]
/-! a mixer: its deeds -/
section
variable (K : PySem.W.Frag) [HasCls K "Mixer"] [HasNo K "Mixer" "shares"]
def F_Mixer_init (K : PySem.W.Frag) : V → V → Hp → VK → XK → Prop := fun x y H Q _ => ∃ (a dx : Addr) (m : Nat), x = .ref a ∧ y = .int m ∧ m ≤ 6 ∧ H a = some (.ins (He.ga K "Mixer") dx []) ∧
  ∀ H', SameX (· = a) H H' → MixAt K H' a dx (List.replicate m 1099511627776) → Q .non H'
abbrev sp_Mixer_init (K : PySem.W.Frag) : Sp := on2 (F_Mixer_init K)
theorem rep1' {n : Nat} {b : Int} : (List.replicate n [V.int b]).flatten = (List.replicate n b).map V.int := by
  rw [List.map_replicate]
  induction n with
  | zero => rfl
  | succ n ih => rw [List.replicate_succ, List.flatten_cons, ih]; rfl
def t_Mixer_init (K : PySem.W.Frag) (E : XK) : TS :=
  sFld K (tVar 0) (tOp (rTimes) (tLst (tCons (tC (.int 1099511627776)) (tNil))) (tVar 1)) "shares"
theorem pure_Mixer_init {x y : V} {H : Hp} {Q : VK} {E : XK} (h : F_Mixer_init K x y H Q E) : t_Mixer_init K E ⟨fun _ H' => Q .non H', Q, fun _ _ => False, fun _ _ => False⟩ [some x, some y] H := by
  obtain ⟨a, dx, m, rfl, rfl, m6, ha, q⟩ := h
  unfold t_Mixer_init
  walk_at "go"
  intro l nl
  walk_at "go"
  refine g_rep upd_same (by omega) (by omega) (Nat.le_trans (m := 1000000) (by simp only [List.length_cons, List.length_nil]; omega) (by decide)) ?_
  intro p np
  rw [Int.toNat_natCast, rep1']
  have ha1 := lk_new (u := .lst ((List.replicate m (1099511627776 : Int)).map V.int)) (lk_new (u := .lst [.int 1099511627776]) ha nl) np
  have npa : p ≠ a := fun e => by rw [e, lk_new ha nl] at np; cases np
  walk_at "go"
  exact q _ (((SameX.of (Same.refl H)).new nl |>.new np).mut rfl) ⟨p, upd_same, lk_mut npa upd_same⟩
def F_Mixer_weights (K : PySem.W.Frag) : V → Hp → VK → XK → Prop := fun x H Q _ => ∃ (a dx : Addr) (ws : List Int), x = .ref a ∧ MixAt K H a dx ws ∧ ∀ l, H l = none → Q (.ref l) (upd H l (.lst (ws.map V.int)))
abbrev sp_Mixer_weights (K : PySem.W.Frag) : Sp := on1 (F_Mixer_weights K)
def F_Mixer_mixed (K : PySem.W.Frag) : V → V → Hp → VK → XK → Prop := fun x y H Q _ => ∃ (a dx b : Addr) (ws cs : List Int) (m : Nat), x = .ref a ∧ y = .ref b ∧ MixAt K H a dx ws ∧ SqL K H b (cs.map V.int) ∧ MOk m ws ∧ COk m cs ∧ ∀ H', Same H H' → Q (.int (mixedS ws cs)) H'
abbrev sp_Mixer_mixed (K : PySem.W.Frag) : Sp := on2 (F_Mixer_mixed K)
def t_Mixer_mixed (K : PySem.W.Frag) (E : XK) : TS :=
  tSeq (tAsg (tC (.int 0)) (gName 2))
  (tSeq (tFor (iZip K (tCons (tFld K (tVar 0) "shares") (tCons (tVar 1) (tNil)))) (gTup K 2 (gCons (gName 3) (gCons (gName 4) (gNil)))) (tAug 2 (tOp (rTimes) (tVar 3) (tVar 4)) (ipI fun i j => i + j)))
  (tRet (tOp (rFloor) (tVar 2) (tCB (rSum K) (tCons (tFld K (tVar 0) "shares") (tNil))))))
theorem pure_Mixer_mixed {x y : V} {H : Hp} {Q : VK} {E : XK} (h : F_Mixer_mixed K x y H Q E) : t_Mixer_mixed K E ⟨fun _ H' => Q .non H', Q, fun _ _ => False, fun _ _ => False⟩ [some x, some y, none, none, none] H := by
  obtain ⟨a, dx, b, ws, cs, m, rfl, rfl, ⟨p, ha, hp⟩, hb, w, c, q⟩ := h
  obtain ⟨s1, s2⟩ := sum_ge w.pos
  have sm := w.sum
  have m1 := w.m1
  unfold t_Mixer_mixed
  walk_at "go"
  refine for_ZI (sq_of hp) hb (by rw [w.len, c.len]) (fun i σ H1 => ∃ u1 u2, σ = [some (.ref a), some (.ref b), some (.int (dotS (ws.take i) (cs.take i))), u1, u2] ∧ Same H H1) ⟨_, _, rfl, Same.refl _⟩ ?_ ?_ ?_
  · rintro i σ H1 ⟨u1, u2, rfl, s⟩
    exact ⟨sq_of (s _ _ hp), s.seq hb⟩
  · rintro i z d σ H1 T hz hd nT ⟨u1, u2, rfl, s⟩
    obtain ⟨d1, d2⟩ := c.all d (List.mem_of_getElem? hd)
    walk_at "go"
    refine ⟨some (.int z), some (.int d), ?_, same_new s nT⟩
    unfold dotS
    rw [dot_take _ hz hd, List.sum_append, List.sum_cons, List.sum_nil, Int.add_zero]
  · rintro σ H1 ⟨u1, u2, rfl, s⟩
    have wl := w.len
    rw [List.take_length, List.take_of_length_le (by rw [w.len, c.len]; exact Nat.le_refl _)]
    have ha1 := s _ _ ha
    walk_at "go"
    refine g_sum (ns := ws) (sq_of (s _ _ hp)) ?_
    walk_at "go"
    exact g_floor (cdw48 (by omega) sm) (q _ s)
def F_Mixer_learn (K : PySem.W.Frag) : V → V → V → Hp → VK → XK → Prop := fun x y z H Q E => ∃ (a dx b : Addr) (ws cs : List Int) (m : Nat), x = .ref a ∧ y = .ref b ∧ MixAt K H a dx ws ∧ SqL K H b (cs.map V.int) ∧ MOk m ws ∧ COk m cs ∧ TyW K H z ∧
  (btw 0 1 z = false → E (.ref (He.ga K "NoBit")) none H) ∧ ∀ (t : Int), z = .int t → 0 ≤ t → t ≤ 1 → ∀ H', SameX (· = a) H H' → MixAt K H' a dx (learnS ws cs t) → Q .non H'
abbrev sp_Mixer_learn (K : PySem.W.Frag) : Sp := on3 (F_Mixer_learn K)
def t_Mixer_learn (K : PySem.W.Frag) (E : XK) : TS :=
  tSeq (tAsg (tFun (sp_checked_bit K) [] (fun _ => E) (tCons (tVar 2) (tNil))) (gName 3))
  (tSeq (tAsg (tLc (iZip K (tCons (tFld K (tVar 0) "shares") (tCons (tVar 1) (tNil)))) (gTup K 2 (gCons (gName 9) (gCons (gName 10) (gNil)))) (tYes) (tOp (rTimes) (tVar 9) (tFun (sp_gives K) [] (fun _ => E0) (tCons (tVar 10) (tCons (tVar 3) (tNil))))) [9, 10]) (gName 4))
  (tSeq (tAsg (tCB (rSum K) (tCons (tVar 4) (tNil))) (gName 5))
  (tSeq (tAsg (tCB (rLength K) (tCons (tVar 4) (tNil))) (gName 6))
  (tSeq (tAsg (tLc (iList K (tVar 4)) (gName 11) (tYes) (tOp (rPlus K) (tOp (rTimes) (tOp (rTimes) (tC (.int 31)) (tVar 6)) (tVar 11)) (tVar 5)) [11]) (gName 7))
  (tSeq (tAsg (tCB (rGreatest K) (tCons (tC (.int 0)) (tCons (tOp (rMinus) (tBits (tCB (rSum K) (tCons (tVar 7) (tNil)))) (tC (.int 48))) (tNil)))) (gName 8))
  (sFld K (tVar 0) (tLc (iList K (tVar 7)) (gName 12) (tYes) (tOp (rRsh) (tVar 12) (tVar 8)) [12]) "shares"))))))
theorem pure_Mixer_learn {x y z : V} {H : Hp} {Q : VK} {E : XK} (h : F_Mixer_learn K x y z H Q E) : t_Mixer_learn K E ⟨fun _ H' => Q .non H', Q, fun _ _ => False, fun _ _ => False⟩ [some x, some y, some z, none, none, none, none, none, none, none, none, none, none] H := by
  obtain ⟨a, dx, b, ws, cs, m, rfl, rfl, ⟨p, ha, hp⟩, hb, w, c, tz, r, q⟩ := h
  unfold t_Mixer_learn
  walk_at "go"
  refine ⟨tz, fun hz => ?_, r⟩
  obtain ⟨t, rfl, t1, t2⟩ := btw_int hz
  have q := q t rfl t1 t2
  obtain ⟨pl, pp⟩ := parts_ok t w c
  have m6 := w.m6
  walk_at "go"
  refine lc_ZI (sq_of hp) hb (by rw [w.len, c.len]) (by decide) (fun w c => .int (w * gave c t)) (by rw [w.len]; omega) (fun v d hv hd H2 Q2 s2 k => ?_) fun D H2 nD s2 eD => ?_
  · obtain ⟨d1, d2⟩ := c.all d hd
    walk_at "go"
    refine gives_of ⟨d1, d2⟩ ⟨t1, t2⟩ ?_
    have g1 := gave_ok (b := t) ⟨d1, d2⟩
    refine g_mul (.inr ⟨by omega, by omega⟩) ?_
    exact k _ (Same.refl _)
  · have eD : H2 D = some (.lst ((partsS ws cs t).map V.int)) := by rw [eD, zip_ints]; rfl
    unfold learnS at q
    generalize partsS ws cs t = ps at pl pp eD q
    walk_at "go"
    refine g_sum (ns := ps) (sq_of eD) ?_
    walk_at "go"
    rw [List.length_map]
    refine lc_LI (ns := ps) (sq_of eD) (fun z => .int (31 * (ps.length : Int) * z + ps.sum)) (by omega) (fun z hz D2 H3 Q3 s3 k => ?_) fun D2 H3 nD2 s3 eD2 => ?_
    · walk_at "go"
      exact k _ (Same.refl _)
    · have eD2 : H3 D2 = some (.lst ((grownS ps).map V.int)) := by rw [eD2]; unfold grownS; rw [List.map_map]; rfl
      have gl : (grownS ps).length = m := by unfold grownS; rw [List.length_map, pl]
      walk_at "go"
      refine g_sum (ns := grownS ps) (sq_of eD2) ?_
      walk_at "go"
      rw [show (if ((Builtin.Int.intBits (grownS ps).sum : Nat) : Int) - 48 > 0 then ((Builtin.Int.intBits (grownS ps).sum : Nat) : Int) - 48 else 0) = overS (grownS ps).sum from rfl]
      have o3 : 0 ≤ overS (grownS ps).sum := by unfold overS; split <;> omega
      walk_at "go"
      refine lc_LI (ns := grownS ps) (sq_of eD2) (fun z => .int (z / 2 ^ (overS (grownS ps).sum).toNat)) (by omega) (fun z hz D3 H4 Q4 s4 k => ?_) fun D3 H4 nD3 s4 eD3 => ?_
      · walk_at "go"
        refine g_rsh o3 ?_
        exact k _ (Same.refl _)
      · have eD3 : H4 D3 = some (.lst ((cutS (grownS ps)).map V.int)) := by rw [eD3]; unfold cutS; rw [List.map_map]; rfl
        have S4 : Same H H4 := Same.trans (Same.trans s2 s3) s4
        have ha4 := S4 _ _ ha
        have nDa : D3 ≠ a := ne_kind eD3 ha4 (by intro e; cases e)
        walk_at "go"
        exact q _ ((SameX.of S4).mut rfl) ⟨D3, upd_same, lk_mut nDa eD3⟩
end
/-! a mixer, reckoned by a law -/
theorem cdw48' {i j : Int} (h : 0 < j) (h2 : j < 1099511627776) : CDivW i j := cdw48 h (by omega)
def primeL (k : Nat) : Int := [48271, 69621, 16807, 40692, 39373, 30269].getD k 0
def numL (n : Int) (k : Nat) : Int := (n + 7) * primeL k % 2147483647
def chanceL (n : Int) (k : Nat) : Int := if numL n k % 5 < 3 then (if numL n k % 5 = 0 then 32768 else if numL n k % 5 = 1 then 16744448 else 8388608) else 32768 + numL n k / 5 % 16711681
theorem chanceL_ok (n : Int) (k : Nat) : 32768 ≤ chanceL n k ∧ chanceL n k ≤ 16744448 := by
  unfold chanceL
  split
  · split
    · decide
    · split <;> decide
  · omega
def F_Lchance (K : PySem.W.Frag) : V → V → Hp → VK → XK → Prop := fun x y H Q _ => ∃ (n : Int) (k : Nat), x = .int n ∧ y = .int k ∧ k < 6 ∧ ∀ H', Same H H' → Q (.int (chanceL n k)) H'
abbrev sp_Lchance (K : PySem.W.Frag) : Sp := on2 (F_Lchance K)
theorem six {k : Nat} (h : k < 6) : atI [V.int 48271, V.int 69621, V.int 16807, V.int 40692, V.int 39373, V.int 30269] (k : Int) = some (.int (primeL k)) ∧ 0 ≤ primeL k ∧ primeL k ≤ 69621 := by
  match k, h with
  | 0, _ => exact ⟨rfl, by decide, by decide⟩
  | 1, _ => exact ⟨rfl, by decide, by decide⟩
  | 2, _ => exact ⟨rfl, by decide, by decide⟩
  | 3, _ => exact ⟨rfl, by decide, by decide⟩
  | 4, _ => exact ⟨rfl, by decide, by decide⟩
  | 5, _ => exact ⟨rfl, by decide, by decide⟩
def t_Lchance (K : PySem.W.Frag) (E : XK) : TS :=
  tSeq (tAsg (tOp (rIx K) (tLst (tCons (tC (.int 48271)) (tCons (tC (.int 69621)) (tCons (tC (.int 16807)) (tCons (tC (.int 40692)) (tCons (tC (.int 39373)) (tCons (tC (.int 30269)) (tNil)))))))) (tVar 1)) (gName 2))
  (tSeq (tAsg (tOp (rRest) (tOp (rTimes) (tOp (rPlus K) (tVar 0) (tC (.int 7))) (tVar 2)) (tC (.int 2147483647))) (gName 3))
  (tSeq (tAsg (tOp (rRest) (tVar 3) (tC (.int 5))) (gName 4))
  (tSeq (tIfS (tTest (tOp (iLt) (tVar 4) (tC (.int 3)))) (tRet (tOp (rIx K) (tLst (tCons (tOp (rLsh) (tC (.int 1)) (tC (.int 15))) (tCons (tOp (rMinus) (tOp (rLsh) (tC (.int 1)) (tC (.int 24))) (tOp (rLsh) (tC (.int 1)) (tC (.int 15)))) (tCons (tOp (rLsh) (tC (.int 1)) (tC (.int 23))) (tNil))))) (tVar 4))) (tNext))
  (tRet (tOp (rPlus K) (tOp (rLsh) (tC (.int 1)) (tC (.int 15))) (tOp (rRest) (tOp (rFloor) (tVar 3) (tC (.int 5))) (tOp (rPlus K) (tOp (rMinus) (tOp (rLsh) (tC (.int 1)) (tC (.int 24))) (tOp (rLsh) (tC (.int 1)) (tC (.int 16)))) (tC (.int 1)))))))))
theorem pure_Lchance (K : PySem.W.Frag) {x y : V} {H : Hp} {Q : VK} {E : XK} (h : F_Lchance K x y H Q E) : t_Lchance K E ⟨fun _ H' => Q .non H', Q, fun _ _ => False, fun _ _ => False⟩ [some x, some y, none, none, none] H := by
  obtain ⟨n, k, rfl, rfl, hk, q⟩ := h
  obtain ⟨e6, p0, p1⟩ := six hk
  unfold t_Lchance
  walk_at "go"
  intro l nl
  walk_at "go"
  refine g_ixL (sq_of upd_same) e6 ?_
  walk_at "go"
  have ne : (n + 7) * primeL k % 2147483647 = numL n k := rfl
  rw [ne]
  refine dif (fun h => ?_) fun h => ?_
  · walk_at "go"
    intro l2 nl2
    walk_at "go"
    have e : atI [V.int 32768, V.int (16777216 - 32768), V.int 8388608] (numL n k % 5) = some (.int (chanceL n k)) := by
      unfold chanceL
      rw [if_pos h]
      have nn : numL n k % 5 = 0 ∨ numL n k % 5 = 1 ∨ numL n k % 5 = 2 := by omega
      rcases nn with e | e | e <;> rw [e] <;> rfl
    refine g_ixL (sq_of upd_same) e (q _ ?_)
    walk_at "sm"
  · walk_at "go"
    have e : chanceL n k = 32768 + numL n k / 5 % (16777216 - 65536 + 1) := by
      unfold chanceL
      rw [if_neg h]
      rfl
    rw [← e]
    exact q _ (by walk_at "sm")
def chancesL (n : Int) (m : Nat) : List Int := (List.range m).map (chanceL n)
theorem chancesL_ok (n : Int) (m : Nat) : COk m (chancesL n m) := ⟨by unfold chancesL; simp, fun c h => by
  unfold chancesL at h
  obtain ⟨k, _, rfl⟩ := List.mem_map.mp h
  exact chanceL_ok n k⟩
def F_Lchances (K : PySem.W.Frag) : V → V → Hp → VK → XK → Prop := fun x y H Q _ => ∃ (n : Int) (m : Nat), x = .int n ∧ y = .int m ∧ m ≤ 6 ∧ ∀ l H', H l = none → Same H H' → H' l = some (.lst ((chancesL n m).map V.int)) → Q (.ref l) H'
abbrev sp_Lchances (K : PySem.W.Frag) : Sp := on2 (F_Lchances K)
def t_Lchances (K : PySem.W.Frag) (E : XK) : TS :=
  tRet (tLc (iRng1 (tCons (tVar 1) (tNil))) (gName 2) (tYes) (tFun (sp_Lchance K) [] (fun _ => E0) (tCons (tVar 0) (tCons (tVar 2) (tNil)))) [2])
theorem pure_Lchances (K : PySem.W.Frag) {x y : V} {H : Hp} {Q : VK} {E : XK} (h : F_Lchances K x y H Q E) : t_Lchances K E ⟨fun _ H' => Q .non H', Q, fun _ _ => False, fun _ _ => False⟩ [some x, some y, none] H := by
  obtain ⟨n, m, rfl, rfl, hm, q⟩ := h
  unfold t_Lchances
  walk_at "go"
  refine lc_R1 (k := m) rfl (fun i => .int (chanceL n i)) (by omega) (fun i hi D H2 Q2 s2 k => ?_) fun D H2 nD s2 eD => ?_
  · walk_at "go"
    exact ⟨n, i, rfl, rfl, by omega, fun H3 s3 => k _ s3⟩
  · refine q D H2 nD s2 ?_
    rw [eD]
    unfold chancesL
    rw [List.map_map]
    rfl
def F_Lweights (K : PySem.W.Frag) : V → V → Hp → VK → XK → Prop := fun x y H Q _ => ∃ (p r : Addr) (ws : List Int), x = .ref p ∧ y = .ref r ∧ H p = some (.lst (ws.map V.int)) ∧ H r = some (.lst (ws.map V.int)) ∧ Q (.bl true) H
abbrev sp_Lweights (K : PySem.W.Frag) : Sp := on2 (F_Lweights K)
def F_Lmixed (K : PySem.W.Frag) : V → V → Hp → VK → XK → Prop := fun x y H Q _ => ∃ (p r : Addr) (ws cs : List Int) (m : Nat), x = .ref p ∧ y = .ref r ∧ H p = some (.lst (ws.map V.int)) ∧ H r = some (.lst (cs.map V.int)) ∧ MOk m ws ∧ COk m cs ∧ Q (.int (mixedS ws cs)) H
abbrev sp_Lmixed (K : PySem.W.Frag) : Sp := on2 (F_Lmixed K)
theorem ix_at {ns : List Int} {k : Nat} {z : Int} (h : ns[k]? = some z) : atI (ns.map V.int) (k : Int) = some (.int z) := by
  refine atI_nat ?_
  rw [List.getElem?_map, h]
  rfl
def F_Llearnt (K : PySem.W.Frag) : V → V → V → Hp → VK → XK → Prop := fun x y z H Q _ => ∃ (p r : Addr) (ws cs : List Int) (m : Nat) (t : Int), x = .ref p ∧ y = .ref r ∧ z = .int t ∧ (0 ≤ t ∧ t ≤ 1) ∧ H p = some (.lst (ws.map V.int)) ∧ H r = some (.lst (cs.map V.int)) ∧ MOk m ws ∧ COk m cs ∧
  ∀ l H', H l = none → Same H H' → H' l = some (.lst ((learnS ws cs t).map V.int)) → Q (.ref l) H'
abbrev sp_Llearnt (K : PySem.W.Frag) : Sp := on3 (F_Llearnt K)
theorem parts_le (t : Int) : ∀ {ws cs : List Int}, (∀ w ∈ ws, 1 ≤ w) → (∀ c ∈ cs, 32768 ≤ c ∧ c ≤ 16744448) → (partsS ws cs t).sum ≤ 16744448 * ws.sum
  | [], _, _, _ => by simp [partsS]
  | w :: ws, [], hw, _ => by
    have := (sum_ge hw).1
    simp only [partsS, List.zipWith_nil_right, List.sum_nil]
    omega
  | w :: ws, c :: cs, hw, hc => by
    have ih := parts_le t (ws := ws) (cs := cs) (fun w h => hw w (List.mem_cons_of_mem _ h)) (fun c h => hc c (List.mem_cons_of_mem _ h))
    have w1 := hw w List.mem_cons_self
    have g := (gave_ok (b := t) (hc c List.mem_cons_self)).2
    unfold partsS at ih ⊢
    rw [List.zipWith_cons_cons, List.sum_cons, List.sum_cons, Int.mul_add]
    have : w * gave c t ≤ w * 16744448 := Int.mul_le_mul_of_nonneg_left g (by omega)
    omega/-! no worse than the best row of looks -/
theorem sum_lin (a : Int) : ∀ {ws cs : List Int}, ws.length = cs.length → (∀ c ∈ cs, a ≤ c) → (∀ w ∈ ws, 0 ≤ w) → a * ws.sum ≤ dotS ws cs
  | [], [], _, _, _ => by simp [dotS]
  | [], _ :: _, h, _, _ => by simp at h
  | _ :: _, [], h, _, _ => by simp at h
  | w :: ws, c :: cs, h, hc, hw => by
    have ih := sum_lin a (ws := ws) (cs := cs) (by simpa using h) (fun c h => hc c (List.mem_cons_of_mem _ h)) fun w h => hw w (List.mem_cons_of_mem _ h)
    have w0 := hw w List.mem_cons_self
    have c0 := hc c List.mem_cons_self
    unfold dotS at ih ⊢
    rw [List.zipWith_cons_cons, List.sum_cons, List.sum_cons, Int.mul_add]
    have : a * w ≤ w * c := by rw [Int.mul_comm a]; exact Int.mul_le_mul_of_nonneg_left c0 w0
    omega
theorem parts_sum (b : Int) : ∀ {ws cs : List Int}, ws.length = cs.length → (partsS ws cs b).sum = if b = 1 then dotS ws cs else 16777216 * ws.sum - dotS ws cs
  | [], [], _ => by simp [partsS, dotS]
  | [], _ :: _, h => by simp at h
  | _ :: _, [], h => by simp at h
  | w :: ws, c :: cs, h => by
    have ih := parts_sum b (ws := ws) (cs := cs) (by simpa using h)
    unfold partsS dotS at ih ⊢
    rw [List.zipWith_cons_cons, List.zipWith_cons_cons, List.sum_cons, List.sum_cons, ih, List.sum_cons]
    unfold gave
    by_cases hb : b = 1
    · rw [if_pos hb, if_pos hb, if_pos hb]
    · rw [if_neg hb, if_neg hb, if_neg hb, Int.mul_sub, Int.mul_add]
      rw [Int.mul_comm w 16777216]
      omega
theorem mix_a {m : Nat} {ws cs : List Int} {b : Int} (w : MOk m ws) (c : COk m cs) : (partsS ws cs b).sum * 32767 ≤ gave (mixedS ws cs) b * ws.sum * 32768 := by
  have hl : ws.length = cs.length := by rw [w.len, c.len]
  obtain ⟨s1, _⟩ := sum_ge w.pos
  have wl := w.len
  have m1 := w.m1
  have W : 1 ≤ ws.sum := by omega
  have lo := sum_lin 32768 hl (fun c' h => (c.all c' h).1) fun x h => by have := w.pos x h; omega
  obtain ⟨pl, pp⟩ := parts_ok b w c
  have pos := (sum_ge pp).1
  rw [parts_sum b hl] at pos ⊢
  unfold gave mixedS
  generalize dotS ws cs = d at lo pos
  generalize ws.sum = s at lo W pos
  have e1 : d / s * s + d % s = d := by rw [Int.mul_comm]; exact Int.mul_ediv_add_emod _ _
  have e2 := Int.emod_lt_of_pos d (show 0 < s by omega)
  have e3 := Int.emod_nonneg d (show s ≠ 0 by omega)
  by_cases hb : b = 1
  · rw [if_pos hb, if_pos hb]
    omega
  · rw [if_neg hb] at pos
    rw [if_neg hb, if_neg hb, show (16777216 - d / s) * s = 16777216 * s - d / s * s from Int.sub_mul _ _ _]
    generalize d / s * s = z at e1
    omega
structure MixB (m : Nat) (ps ws' : List Int) (X : Int) : Prop where
  x0 : 0 < X
  sum : ws'.sum * X ≤ 32 * (m : Int) * ps.sum
  at_ : ∀ (k : Nat) w', ws'[k]? = some w' → ∃ p, ps[k]? = some p ∧ (31 * (m : Int) * p + ps.sum) * 32767 ≤ w' * X * 32768
theorem mix_b {m : Nat} {ps : List Int} (pl : ps.length = m) (pp : ∀ p ∈ ps, 1 ≤ p) (m1 : 1 ≤ m) (m6 : m ≤ 6) : ∃ X, MixB m ps (cutS (grownS ps)) X := by
  obtain ⟨s1, s2⟩ := sum_ge pp
  have gs := grown_sum ps
  have W : 1 ≤ ps.sum := by omega
  have S : 0 < (grownS ps).sum := by
    rw [gs, pl]
    exact Int.mul_pos (by omega) (by omega)
  obtain ⟨o1, o2, o3⟩ := over_ok S
  have hd : (0 : Int) < 2 ^ (overS (grownS ps).sum).toNat := Int.pow_pos (by decide)
  have k192 : (grownS ps).sum ≤ 192 * ps.sum := by
    rw [gs]
    exact Int.mul_le_mul_of_nonneg_right (by omega) (by omega)
  refine ⟨2 ^ (overS (grownS ps).sum).toNat, hd, ?_, fun k w' hw => ?_⟩
  · have e : (grownS ps).sum = 32 * (m : Int) * ps.sum := by rw [gs, pl]
    exact Int.le_trans (sum_div _ hd (grownS ps)) (Int.le_of_eq e)
  · unfold cutS grownS at hw
    rw [List.getElem?_map, List.getElem?_map] at hw
    cases e : ps[k]? with
    | none => rw [e] at hw; cases hw
    | some p =>
      rw [e] at hw
      refine ⟨p, rfl, ?_⟩
      have hp := pp p (List.mem_of_getElem? e)
      have hw := Option.some.inj hw
      rw [pl] at hw
      have gp : ps.sum ≤ 31 * (m : Int) * p + ps.sum := by
        have : 0 ≤ 31 * (m : Int) * p := Int.mul_nonneg (by omega) (by omega)
        omega
      have gd : grownS ps = ps.map fun p => 31 * (m : Int) * p + ps.sum := by unfold grownS; rw [pl]
      rw [← gd] at hw
      have hw : (31 * (m : Int) * p + ps.sum) / 2 ^ (overS (grownS ps).sum).toNat = w' := hw
      subst hw
      generalize 31 * (m : Int) * p + ps.sum = g at gp
      by_cases z : overS (grownS ps).sum = 0
      · rw [z]
        rw [show (2 : Int) ^ (0 : Int).toNat = 1 from rfl, Int.ediv_one, Int.mul_one]
        omega
      · have o2 := o2 z
        generalize (2 : Int) ^ (overS (grownS ps).sum).toNat = X at o2 hd
        have e1 : g / X * X + g % X = g := by rw [Int.mul_comm]; exact Int.mul_ediv_add_emod _ _
        have e2 := Int.emod_lt_of_pos g hd
        generalize g / X * X = y at e1 ⊢
        omega
/-- each look's share is no less than one of 32 for each look, but for the rounding -/
def Fair (m : Nat) (ws : List Int) : Prop := ∀ (k : Nat) w, ws[k]? = some w → ws.sum * 16383 ≤ w * (32 * (m : Int)) * 16384
theorem fair_first {m : Nat} : Fair m (List.replicate m 1099511627776) := by
  intro k w h
  have := List.eq_of_mem_replicate (List.mem_of_getElem? h)
  subst this
  rw [List.sum_replicate_int]
  omega
theorem fair_learn {m : Nat} {ws cs : List Int} {b : Int} (w : MOk m ws) (c : COk m cs) : Fair m (learnS ws cs b) := by
  obtain ⟨pl, pp⟩ := parts_ok b w c
  unfold learnS
  generalize partsS ws cs b = ps at pl pp
  obtain ⟨X, B⟩ := mix_b pl pp w.m1 w.m6
  have x0 := B.x0
  intro k v hv
  obtain ⟨p, hp, h1⟩ := B.at_ k v hv
  have h2 := B.sum
  have p1 := pp p (List.mem_of_getElem? hp)
  have m1 := w.m1
  have q0 : 0 ≤ 31 * (m : Int) * p := Int.mul_nonneg (by omega) (by omega)
  generalize (cutS (grownS ps)).sum = S at h2 ⊢
  have k1 : ps.sum * 32767 ≤ v * X * 32768 := by omega
  have k2 : 32 * (m : Int) * (ps.sum * 32767) ≤ 32 * (m : Int) * (v * X * 32768) := Int.mul_le_mul_of_nonneg_left k1 (by omega)
  have k3 : S * 32767 * X ≤ v * (32 * (m : Int)) * 32768 * X := by
    calc S * 32767 * X = S * X * 32767 := by ac_rfl
      _ ≤ 32 * (m : Int) * ps.sum * 32767 := by omega
      _ = 32 * (m : Int) * (ps.sum * 32767) := by ac_rfl
      _ ≤ 32 * (m : Int) * (v * X * 32768) := k2
      _ = v * (32 * (m : Int)) * 32768 * X := by ac_rfl
  have k4 : S * 32767 ≤ v * (32 * (m : Int)) * 32768 := Int.le_of_mul_le_mul_right k3 x0
  have m6 := w.m6
  have v0 : 0 ≤ v * (32 * (m : Int)) := by
    have s1 := (sum_ge pp).1
    have : 0 ≤ v * X := by omega
    have v0 : 0 ≤ v := by
      rcases Int.lt_or_le v 0 with n | n
      · have := Int.mul_neg_of_neg_of_pos n x0
        omega
      · exact n
    exact Int.mul_nonneg v0 (by omega)
  generalize v * (32 * (m : Int)) = y at k4 v0 ⊢
  omega
structure Pot (m : Nat) (ws : List Int) (L R : Int) (f : Nat → Int) (p : Int) : Prop where
  l0 : 0 ≤ L
  r0 : 0 ≤ R
  at_ : ∀ (j : Nat) w, ws[j]? = some w → 0 ≤ f j ∧ L * f j * ws.sum * p ≤ w * R * (16 * (m : Int)) * 16384
theorem pot_first {m : Nat} {ws : List Int} (h : Fair m ws) : Pot m ws 1 2 (fun _ => 1) 16383 := by
  refine ⟨by decide, by decide, fun j w hw => ⟨by decide, ?_⟩⟩
  have := h j w hw
  rw [show w * 2 * (16 * (m : Int)) = w * (32 * (m : Int)) by rw [show (32 : Int) = 2 * 16 from rfl]; ac_rfl]
  omega
def nextF (m : Nat) (j : Nat) : Nat → Int := fun k => if k = j then 31 * (m : Int) + 1 else 1
theorem pot_step {m : Nat} {ws cs : List Int} {b : Int} {L R p c w : Int} {f : Nat → Int} {j : Nat} (ok : MOk m ws) (co : COk m cs) (h : Pot m ws L R f p) (hw : ws[j]? = some w) (hc : cs[j]? = some c) (hp : 8300 ≤ p) (hp2 : p ≤ 16383) :
    L * f j * gave c b ≤ R * gave (mixedS ws cs) b * 32 * (m : Int) ∧ Pot m (learnS ws cs b) (L * f j * gave c b) (R * gave (mixedS ws cs) b * 32 * (m : Int)) (nextF m j) (p - 1) := by
  obtain ⟨f0, hj⟩ := h.at_ j w hw
  have l0 := h.l0
  have r0 := h.r0
  have m1 := ok.m1
  have ga := mix_a (b := b) ok co
  obtain ⟨pl, pp⟩ := parts_ok b ok co
  have hpj : (partsS ws cs b)[j]? = some (w * gave c b) := by
    unfold partsS
    rw [List.getElem?_zipWith, hw, hc]
  have gc := (gave_ok (b := b) (co.all c (List.mem_of_getElem? hc))).1
  obtain ⟨s1, s2⟩ := sum_ge pp
  have pj := s2 _ (List.mem_of_getElem? hpj)
  have pj1 := pp _ (List.mem_of_getElem? hpj)
  have wl := ok.len
  have W1 := (sum_ge ok.pos).1
  have W : 0 < ws.sum := by omega
  unfold learnS
  generalize partsS ws cs b = ps at ga pl pp hpj s1 s2 pj pj1
  have g0 : 0 ≤ gave (mixedS ws cs) b := by
    rcases Int.lt_or_le (gave (mixedS ws cs) b) 0 with n | n
    · have := Int.mul_neg_of_neg_of_pos n W
      omega
    · exact n
  generalize gave (mixedS ws cs) b = g at ga g0 ⊢
  generalize gave c b = gc' at hpj pj pj1 gc ⊢
  generalize ws.sum = S at ga hj W
  generalize f j = fj at hj f0 ⊢
  -- the bound now
  have e1 : L * fj * gc' * (S * p * 32767) ≤ R * g * 32 * (m : Int) * (S * p * 32767) := by
    have a1 : 0 ≤ gc' * 32767 := by omega
    have a2 : 0 ≤ R * (16 * (m : Int)) * 16384 := Int.mul_nonneg (Int.mul_nonneg r0 (by omega)) (by decide)
    have a3 : 0 ≤ R * (16 * (m : Int)) * (g * S) := Int.mul_nonneg (Int.mul_nonneg r0 (by omega)) (Int.mul_nonneg g0 (by omega))
    calc L * fj * gc' * (S * p * 32767) = (gc' * 32767) * (L * fj * S * p) := by ac_rfl
      _ ≤ (gc' * 32767) * (w * R * (16 * (m : Int)) * 16384) := Int.mul_le_mul_of_nonneg_left hj a1
      _ = (R * (16 * (m : Int)) * 16384) * (w * gc' * 32767) := by ac_rfl
      _ ≤ (R * (16 * (m : Int)) * 16384) * (g * S * 32768) := Int.mul_le_mul_of_nonneg_left (by omega) a2
      _ = (R * (16 * (m : Int)) * (g * S)) * (16384 * 32768) := by ac_rfl
      _ ≤ (R * (16 * (m : Int)) * (g * S)) * (2 * (p * 32767)) := Int.mul_le_mul_of_nonneg_left (by omega) a3
      _ = R * g * 32 * (m : Int) * (S * p * 32767) := by rw [show (32 : Int) = 16 * 2 from rfl]; ac_rfl
  have y0 : 0 < S * p * 32767 := Int.mul_pos (Int.mul_pos W (by omega)) (by decide)
  refine ⟨Int.le_of_mul_le_mul_right e1 y0, ?_⟩
  obtain ⟨X, B⟩ := mix_b pl pp ok.m1 ok.m6
  have x0 := B.x0
  have h2 := B.sum
  refine ⟨Int.mul_nonneg (Int.mul_nonneg l0 f0) (by omega), Int.mul_nonneg (Int.mul_nonneg (Int.mul_nonneg r0 g0) (by decide)) (by omega), fun k v hv => ?_⟩
  obtain ⟨q, hq, h1⟩ := B.at_ k v hv
  have q1 := pp q (List.mem_of_getElem? hq)
  have mq : 0 ≤ 31 * (m : Int) * q := Int.mul_nonneg (by omega) (by omega)
  obtain ⟨F0, Fq⟩ : 0 ≤ nextF m j k ∧ nextF m j k * (w * gc') ≤ 31 * (m : Int) * q + ps.sum := by
    unfold nextF
    by_cases e : k = j
    · subst e
      rw [hpj] at hq
      cases hq
      rw [if_pos rfl, Int.add_mul, Int.one_mul]
      exact ⟨by omega, by omega⟩
    · rw [if_neg e, Int.one_mul]
      exact ⟨by decide, by omega⟩
  refine ⟨F0, ?_⟩
  generalize (cutS (grownS ps)).sum = S' at h2 ⊢
  generalize nextF m j k = F at F0 Fq ⊢
  have G0 : 0 ≤ 31 * (m : Int) * q + ps.sum := by omega
  generalize 31 * (m : Int) * q + ps.sum = G at h1 Fq G0
  generalize ps.sum = P at *
  have m0 : (0 : Int) ≤ (m : Int) := by omega
  generalize (m : Int) = M at *
  have P0 : 0 ≤ P := by omega
  have b1 : 0 ≤ L * fj * gc' * F * S * ((p - 1) * 1073741824) := Int.mul_nonneg (Int.mul_nonneg (Int.mul_nonneg (Int.mul_nonneg (Int.mul_nonneg l0 f0) (by omega)) F0) (by omega)) (by omega)
  have b2 : 0 ≤ L * fj * gc' * F * S * (32 * M * P) := Int.mul_nonneg (Int.mul_nonneg (Int.mul_nonneg (Int.mul_nonneg (Int.mul_nonneg l0 f0) (by omega)) F0) (by omega)) (Int.mul_nonneg (by omega) P0)
  have b3 : 0 ≤ gc' * F * (32 * M * P) * (32767 * 32767) := Int.mul_nonneg (Int.mul_nonneg (Int.mul_nonneg (by omega) F0) (Int.mul_nonneg (by omega) P0)) (by decide)
  have b4 : 0 ≤ 32 * M * P * R * (16 * M) * 16384 * 32767 := Int.mul_nonneg (Int.mul_nonneg (Int.mul_nonneg (Int.mul_nonneg (Int.mul_nonneg (by omega) P0) r0) (by omega)) (by decide)) (by decide)
  have b5 : 0 ≤ 32 * M * P * R * (16 * M) * 16384 * 32767 * 32767 := Int.mul_nonneg b4 (by decide)
  have vX : 0 ≤ v * X := by omega
  have b6 : 0 ≤ 32 * M * R * (16 * M) * 16384 * (v * X) * 32768 := Int.mul_nonneg (Int.mul_nonneg (Int.mul_nonneg (Int.mul_nonneg (Int.mul_nonneg (by omega) r0) (by omega)) (by decide)) vX) (by decide)
  refine Int.le_of_mul_le_mul_right (a := X * S * 1073741824) ?_ (Int.mul_pos (Int.mul_pos x0 W) (by decide))
  calc L * fj * gc' * F * S' * (p - 1) * (X * S * 1073741824) = (L * fj * gc' * F * S * ((p - 1) * 1073741824)) * (S' * X) := by ac_rfl
    _ ≤ (L * fj * gc' * F * S * ((p - 1) * 1073741824)) * (32 * M * P) := Int.mul_le_mul_of_nonneg_left h2 b1
    _ = (L * fj * gc' * F * S * (32 * M * P)) * ((p - 1) * 1073741824) := by ac_rfl
    _ ≤ (L * fj * gc' * F * S * (32 * M * P)) * (p * (32767 * 32767)) := Int.mul_le_mul_of_nonneg_left (by omega) b2
    _ = (gc' * F * (32 * M * P) * (32767 * 32767)) * (L * fj * S * p) := by ac_rfl
    _ ≤ (gc' * F * (32 * M * P) * (32767 * 32767)) * (w * R * (16 * M) * 16384) := Int.mul_le_mul_of_nonneg_left hj b3
    _ = (32 * M * P * R * (16 * M) * 16384 * 32767 * 32767) * (F * (w * gc')) := by ac_rfl
    _ ≤ (32 * M * P * R * (16 * M) * 16384 * 32767 * 32767) * G := Int.mul_le_mul_of_nonneg_left Fq b5
    _ = (32 * M * P * R * (16 * M) * 16384 * 32767) * (G * 32767) := by ac_rfl
    _ ≤ (32 * M * P * R * (16 * M) * 16384 * 32767) * (v * X * 32768) := Int.mul_le_mul_of_nonneg_left h1 b4
    _ = (32 * M * R * (16 * M) * 16384 * (v * X) * 32768) * (P * 32767) := by ac_rfl
    _ ≤ (32 * M * R * (16 * M) * 16384 * (v * X) * 32768) * (g * S * 32768) := Int.mul_le_mul_of_nonneg_left ga b6
    _ = v * (R * g * 32 * M) * (16 * M) * 16384 * (X * S * 1073741824) := by rw [show (1073741824 : Int) = 32768 * 32768 from rfl]; ac_rfl
/-! k22: no worse -/
theorem dot_bounds : ∀ {ws cs : List Int}, ws.length = cs.length → (∀ w ∈ ws, 1 ≤ w) → (∀ c ∈ cs, 32768 ≤ c ∧ c ≤ 16744448) → 32768 * ws.sum ≤ dotS ws cs ∧ dotS ws cs ≤ 16744448 * ws.sum
  | [], [], _, _, _ => by simp [dotS]
  | [], _ :: _, h, _, _ => by simp at h
  | _ :: _, [], h, _, _ => by simp at h
  | w :: ws, c :: cs, hl, hw, hc => by
    have ih := dot_bounds (ws := ws) (cs := cs) (by simpa using hl) (fun w h => hw w (List.mem_cons_of_mem _ h)) (fun c h => hc c (List.mem_cons_of_mem _ h))
    have w1 := hw w List.mem_cons_self
    have c1 := hc c List.mem_cons_self
    unfold dotS at ih ⊢
    rw [List.zipWith_cons_cons, List.sum_cons, List.sum_cons, Int.mul_add, Int.mul_add]
    have a : w * 32768 ≤ w * c := Int.mul_le_mul_of_nonneg_left c1.1 (by omega)
    have b : w * c ≤ w * 16744448 := Int.mul_le_mul_of_nonneg_left c1.2 (by omega)
    omega
theorem mixed_ok {m : Nat} {ws cs : List Int} (w : MOk m ws) (c : COk m cs) : 32768 ≤ mixedS ws cs ∧ mixedS ws cs ≤ 16744448 := by
  have s := (sum_ge w.pos).1
  have m1 := w.m1
  have wl := w.len
  obtain ⟨a, b⟩ := dot_bounds (by rw [w.len, c.len]) w.pos c.all
  unfold mixedS
  have p : 0 < ws.sum := by omega
  exact ⟨Int.le_ediv_of_mul_le p a, by
    have : dotS ws cs / ws.sum < 16744449 := Int.ediv_lt_of_lt_mul p (by omega)
    omega⟩
theorem COk.set {m : Nat} {cs : List Int} (h : COk m cs) (j : Nat) {v : Int} (hv : 32768 ≤ v ∧ v ≤ 16744448) : COk m (cs.set j v) := ⟨by rw [List.length_set]; exact h.len, fun c hc => by
  rcases List.mem_or_eq_of_mem_set hc with z | z
  · exact h.all c z
  · rw [z]; exact hv⟩
section
variable (K : PySem.W.Frag) [HasCls K "Mixer"] [HasNo K "Mixer" "shares"]
def F_Lgives (K : PySem.W.Frag) : V → V → Hp → VK → XK → Prop := fun x y H Q _ => ∃ c b : Int, x = .int c ∧ y = .int b ∧ Q (.int (gave c b)) H
abbrev sp_Lgives (K : PySem.W.Frag) : Sp := on2 (F_Lgives K)
def t_Lgives (K : PySem.W.Frag) (E : XK) : TS :=
  tSeq (tIfS (tTest (tOp (rSame K) (tVar 1) (tC (.int 1)))) (tRet (tVar 0)) (tNext))
  (tRet (tOp (rMinus) (tOp (rLsh) (tC (.int 1)) (tC (.int 24))) (tVar 0)))
theorem pure_Lgives {x y : V} {H : Hp} {Q : VK} {E : XK} (h : F_Lgives K x y H Q E) : t_Lgives K E ⟨fun _ H' => Q .non H', Q, fun _ _ => False, fun _ _ => False⟩ [some x, some y] H := by
  obtain ⟨c, b, rfl, rfl, q⟩ := h
  unfold gave at q
  unfold t_Lgives
  walk_at "go"
  refine dif (fun h => ?_) fun h => ?_
  · rw [if_pos h] at q
    walk_at "go"
    exact q
  · rw [if_neg h] at q
    walk_at "go"
    exact q
def F_Ldrawn (K : PySem.W.Frag) : V → V → V → V → Hp → VK → XK → Prop := fun x y z u H Q _ => ∃ (n b : Int) (a : Addr) (cs : List Int) (m l : Nat), x = .int n ∧ y = .ref a ∧ z = .int b ∧ u = .int (l : Int) ∧ SqL K H a (cs.map V.int) ∧ cs.length = m ∧ 1 ≤ m ∧ m ≤ 6 ∧ l < m ∧ ∀ j : Nat, j < m → Q (.int (j : Int)) H
abbrev sp_Ldrawn (K : PySem.W.Frag) : Sp := on4 (F_Ldrawn K)
def t_Ldrawn (K : PySem.W.Frag) (E : XK) : TS :=
  tSeq (tAsg (tOp (rRest) (tOp (rFloor) (tVar 0) (tC (.int 4))) (tC (.int 5))) (gName 4))
  (tSeq (tIfS (tTest (tOp (rSame K) (tVar 4) (tC (.int 0)))) (tSeq (tAsg (tC (.int 0)) (gName 5))
  (tSeq (tFor (iRng1 (tCons (tCB (rLength K) (tCons (tVar 1) (tNil))) (tNil))) (gName 6) (tIfS (tTest (tOp (iGt) (tFun (sp_Lgives K) [] (fun _ => E) (tCons (tOp (rIx K) (tVar 1) (tVar 6)) (tCons (tVar 2) (tNil)))) (tFun (sp_Lgives K) [] (fun _ => E) (tCons (tOp (rIx K) (tVar 1) (tVar 5)) (tCons (tVar 2) (tNil)))))) (tAsg (tVar 6) (gName 5)) (tNext)))
  (tRet (tVar 5)))) (tNext))
  (tSeq (tIfS (tTest (tOp (rSame K) (tVar 4) (tC (.int 1)))) (tRet (tOp (rRest) (tOp (rFloor) (tVar 0) (tC (.int 20))) (tCB (rLength K) (tCons (tVar 1) (tNil))))) (tNext))
  (tRet (tVar 3))))
theorem pure_Ldrawn {x y z u : V} {H : Hp} {Q : VK} {E : XK} (h : F_Ldrawn K x y z u H Q E) : t_Ldrawn K E ⟨fun _ H' => Q .non H', Q, fun _ _ => False, fun _ _ => False⟩ [some x, some y, some z, some u, none, none, none] H := by
  obtain ⟨n, b, a, cs, m, l, rfl, rfl, rfl, rfl, hs, cl, m1, m6, lm, q⟩ := h
  unfold t_Ldrawn
  walk_at "go"
  refine dif (fun h => ?_) fun h => ?_
  · walk_at "go"
    rw [List.length_map]
    refine for_R1 (k := m) (by rw [cl]) (by omega) (fun i σ H2 => ∃ j : Nat, ∃ u6, j < m ∧ σ = [some (.int n), some (.ref a), some (.int b), some (.int (l : Int)), some (.int (n / 4 % 5)), some (.int (j : Int)), u6] ∧ H2 = H) ?_ ?_ ?_
    · exact ⟨0, _, by omega, rfl, rfl⟩
    · rintro i σ H2 hi ⟨j, u6, hj, rfl, rfl⟩
      have h1 : cs[i]? = some (cs[i]'(by omega)) := List.getElem?_eq_getElem (by omega)
      have h2 : cs[j]? = some (cs[j]'(by omega)) := List.getElem?_eq_getElem (by omega)
      generalize cs[i]'(by omega) = v1 at h1
      generalize cs[j]'(by omega) = v2 at h2
      have ix : ∀ {k : Nat} {v : Int}, cs[k]? = some v → atI (cs.map V.int) (k : Int) = some (.int v) := fun h => atI_nat (by rw [List.getElem?_map, h]; rfl)
      walk_at "go"
      refine g_ixL hs (ix h1) ?_
      walk_at "go"
      refine ⟨v1, b, rfl, rfl, ?_⟩
      walk_at "go"
      refine g_ixL hs (ix h2) ?_
      walk_at "go"
      refine ⟨v2, b, rfl, rfl, ?_⟩
      walk_at "go"
      refine dif (fun h => ?_) fun h => ?_
      · walk_at "go"
        exact ⟨i, _, hi, rfl, rfl⟩
      · walk_at "go"
        exact ⟨j, _, hj, rfl, rfl⟩
    · rintro σ H2 ⟨j, u6, hj, rfl, rfl⟩
      walk_at "go"
      exact q j hj
  · walk_at "go"
    refine dif (fun h => ?_) fun h => ?_
    · walk_at "go"
      rw [List.length_map, cl]
      refine g_rest (show (0 : Int) < m by omega) ?_
      have b0 := Int.emod_nonneg (n / 20) (show (m : Int) ≠ 0 by omega)
      have b1 := Int.emod_lt_of_pos (n / 20) (show (0 : Int) < m by omega)
      have := q (n / 20 % (m : Int)).toNat (by omega)
      rw [show (((n / 20 % (m : Int)).toNat : Nat) : Int) = n / 20 % (m : Int) by omega] at this
      exact this
    · walk_at "go"
      exact q l lm
def F_law (K : PySem.W.Frag) : V → Hp → VK → XK → Prop := fun x H Q _ => ∃ (a : Addr) (ns : List Int), x = .ref a ∧ SqL K H a (ns.map V.int) ∧ ns.length ≤ 63 ∧ ∀ H', Q (.bl true) H'
abbrev sp_law (K : PySem.W.Frag) : Sp := on1 (F_law K)
structure Cnt (m bg i : Nat) (ws : List Int) (L R : Int) (l : Nat) : Prop where
  ok : MOk m ws
  fair : Fair m ws
  ahead : i ≤ bg → L = 1 ∧ R = 2
  pot : bg < i → Pot m ws L R (nextF m l) (16383 - ((i : Int) - (bg : Int)))
  lm : l < m
theorem Cnt.now {m bg i l : Nat} {ws : List Int} {L R : Int} (h : Cnt m bg i ws L R l) (hb : bg ≤ i) : Pot m ws L R (if bg < i then nextF m l else fun _ => 1) (16383 - ((i : Int) - (bg : Int))) := by
  by_cases e : bg < i
  · rw [if_pos e]
    exact h.pot e
  · rw [if_neg e]
    have z : i = bg := by omega
    subst z
    obtain ⟨a, b⟩ := h.ahead (Nat.le_refl _)
    rw [a, b, Int.sub_self, Int.sub_zero]
    exact pot_first h.fair
theorem Cnt.yes {m bg i l j : Nat} {ws cs : List Int} {L R b w c : Int} (h : Cnt m bg i ws L R l) (co : COk m cs) (hb : bg ≤ i) (hi : i ≤ 63) (hw : ws[j]? = some w) (hc : cs[j]? = some c) :
    L * (if bg < i then nextF m l else fun _ => 1) j * gave c b ≤ R * gave (mixedS ws cs) b * 32 * (m : Int) ∧ Cnt m bg (i + 1) (learnS ws cs b) (L * (if bg < i then nextF m l else fun _ => 1) j * gave c b) (R * gave (mixedS ws cs) b * 32 * (m : Int)) j := by
  obtain ⟨a1, a2⟩ := pot_step (b := b) h.ok co (h.now hb) hw hc (by omega) (by omega)
  refine ⟨a1, learn_ok h.ok co, fair_learn h.ok co, fun z => absurd z (by omega), fun _ => ?_, ?_⟩
  · rw [show (16383 : Int) - (((i + 1 : Nat) : Int) - (bg : Int)) = 16383 - ((i : Int) - (bg : Int)) - 1 by omega]
    exact a2
  · have := (List.getElem?_eq_some_iff.mp hw).1
    have := h.ok.len
    omega
theorem Cnt.no {m bg i l j : Nat} {ws cs : List Int} {L R b : Int} (h : Cnt m bg i ws L R l) (co : COk m cs) (hb : i < bg) (hj : j < m) : Cnt m bg (i + 1) (learnS ws cs b) L R j :=
  ⟨learn_ok h.ok co, fair_learn h.ok co, fun _ => h.ahead (by omega), fun z => absurd z (by omega), hj⟩
theorem law_tail {H : Hp} {sc D : Addr} {m bg r : Nat} {kn : Bool} {ms : List Int} {Q : VK} {E : XK} {bk ct : St → Hp → Prop} (eD : H D = some (.lst (ms.map V.int))) (ml : ms.length ≤ 63) (m1 : 1 ≤ m) (m6 : m ≤ 6) (r1 : 1 ≤ r) (r12 : r ≤ 12) (q : ∀ H', Q (.bl true) H') :
    (tSeq (tAsg (tNew (He.ga K "Mixer") (sp_Mixer_init K) [] (fun _ => E) (tCons (tVar 2) (tNil))) (gName 6)) (tSeq (tAsg (tC (.int 1)) (gName 7)) (tSeq (tAsg (tC (.int 2)) (gName 8)) (tSeq (tAsg (tOp (rRest) (tOp (rFloor) (tCB (rSum K) (tCons (tSl (rSlL K) (tVar 1) (tNoPart) (tPart (tC (.int 1)))) (tNil))) (tC (.int 7))) (tVar 2)) (gName 9)) (tSeq (tFor (iRng1 (tCons (tCB (rLength K) (tCons (tVar 1) (tNil))) (tNil))) (gName 10) (tSeq (tAsg (tFun (sp_Lchances K) [] (fun _ => E) (tCons (tOp (rFloor) (tOp (rIx K) (tVar 1) (tVar 10)) (tC (.int 3))) (tCons (tVar 2) (tNil)))) (gName 11)) (tSeq (tAsg (tOp (rRest) (tOp (rFloor) (tOp (rIx K) (tVar 1) (tVar 10)) (tC (.int 2))) (tC (.int 2))) (gName 12)) (tSeq (tAsg (tFun (sp_Ldrawn K) [] (fun _ => E) (tCons (tOp (rIx K) (tVar 1) (tVar 10)) (tCons (tVar 11) (tCons (tVar 12) (tCons (tVar 9) (tNil)))))) (gName 13)) (tSeq (tIfS (tTru K (tVar 4)) (tSeq (tAsg (tOp (rRest) (tOp (rFloor) (tVar 10) (tVar 5)) (tVar 2)) (gName 13)) (tAsg (tOp (rIx K) (tLst (tCons (tOp (rLsh) (tC (.int 1)) (tC (.int 15))) (tCons (tOp (rMinus) (tOp (rLsh) (tC (.int 1)) (tC (.int 24))) (tOp (rLsh) (tC (.int 1)) (tC (.int 15)))) (tNil)))) (tVar 12)) (gSub (tVar 11) (tVar 13) rSetL))) (tNext)) (tSeq (tAsg (tMth "mixed" (one (He.ga K "Mixer") (sp_Mixer_mixed K)) (fun _ => E) (tVar 6) (tCons (tCB (rListOf K) (tCons (tVar 11) (tNil))) (tNil))) (gName 14)) (tSeq (tIfS (tOr (tNot (tTru K (tCB (rIsi2 K) (tCons (tVar 14) (tCons (tC (.ty "int")) (tNil)))))) (tNot (tTest (tChain (iLt) (iLt) (tC (.int 0)) (tVar 14) (tOp (rLsh) (tC (.int 1)) (tC (.int 24))))))) (tRet (tC (.bl false))) (tNext)) (tSeq (tIfS (tTest (tOp (iGe) (tVar 10) (tVar 3))) (tSeq (tAsg (tOp (rTimes) (tVar 7) (tFun (sp_Lgives K) [] (fun _ => E) (tCons (tOp (rIx K) (tVar 11) (tVar 13)) (tCons (tVar 12) (tNil))))) (gName 7)) (tSeq (tAsg (tOp (rTimes) (tOp (rTimes) (tOp (rTimes) (tVar 8) (tFun (sp_Lgives K) [] (fun _ => E) (tCons (tVar 14) (tCons (tVar 12) (tNil))))) (tC (.int 32))) (tVar 2)) (gName 8)) (tSeq (tIfS (tAnd (tTest (tOp (iGt) (tVar 10) (tVar 3))) (tTest (tOp (rSame K) (tVar 13) (tVar 9)))) (tAsg (tOp (rTimes) (tVar 7) (tOp (rPlus K) (tOp (rTimes) (tC (.int 31)) (tVar 2)) (tC (.int 1)))) (gName 7)) (tNext)) (tIfS (tTest (tOp (iGt) (tVar 7) (tVar 8))) (tRet (tC (.bl false))) (tNext))))) (tNext)) (tSeq (tAsg (tVar 13) (gName 9)) (tDrop (tMth "learn" (one (He.ga K "Mixer") (sp_Mixer_learn K)) (fun _ => E) (tVar 6) (tCons (tCB (rListOf K) (tCons (tVar 11) (tNil))) (tCons (tVar 12) (tNil)))))))))))))) (tRet (tC (.bl true)))))))) ⟨fun _ H' => Q .non H', Q, bk, ct⟩ [some (.ref sc), some (.ref D), some (.int (m : Int)), some (.int (bg : Int)), some (.bl kn), some (.int (r : Int)), none, none, none, none, none, none, none, none, none, none] H := by
  walk_at "go"
  intro a dx na ndx nad
  walk_at "go"
  refine ⟨a, dx, m, rfl, rfl, m6, upd_same, fun H1 X M => ?_⟩
  have S0 : Same H (upd (upd H dx (.own a)) a (.ins (He.ga K "Mixer") dx [])) := same_mut (same_mut (Same.refl H) ndx) na
  have nDa : D ≠ a := fun z => by rw [z, na] at eD; cases eD
  have eD := X.kp _ _ nDa (S0 _ _ eD)
  refine ⟨rfl, ?_⟩
  clear S0 X na ndx nad
  walk_at "go"
  intro c3 nc3
  have ec3 : (upd H1 c3 (.lst (cutV (ms.map V.int) none (some 1)))) c3 = some (.lst ((cutL ms none (some 1)).map V.int)) := by rw [upd_same, cutV_map]
  have eD := lk_new (u := (.lst (cutV (ms.map V.int) none (some 1)))) eD nc3
  have M := M.same (same_new (u := (.lst (cutV (ms.map V.int) none (some 1)))) (Same.refl _) nc3)
  generalize upd H1 c3 (.lst (cutV (ms.map V.int) none (some 1))) = H2 at ec3 eD   M
  walk_at "go"
  refine g_sum (ns := cutL ms none (some 1)) (sq_of ec3) ?_
  clear nc3 ec3
  walk_at "go"
  generalize (cutL ms none (some 1)).sum = w0
  refine g_rest (show (0 : Int) < m by omega) ?_
  have b0 := Int.emod_nonneg (w0 / 7) (show (m : Int) ≠ 0 by omega)
  have b1 := Int.emod_lt_of_pos (w0 / 7) (show (0 : Int) < m by omega)
  obtain ⟨l0, el0⟩ : ∃ l : Nat, w0 / 7 % (m : Int) = (l : Int) := ⟨(w0 / 7 % (m : Int)).toNat, by omega⟩
  rw [el0] at b1 ⊢
  clear b0 el0
  walk_at "go"
  rw [List.length_map]
  have ok0 : MOk m (List.replicate m 1099511627776) := ⟨List.length_replicate, m1, m6, fun w hw => by rw [List.eq_of_mem_replicate hw]; decide, by rw [List.sum_replicate_int]; omega⟩
  refine for_R1 (k := ms.length) rfl (by omega) (fun i σ H6 => ∃ (L R : Int) (l : Nat) (ws : List Int) (u10 u11 u12 u13 u14 : Option V), σ = [some (.ref sc), some (.ref D), some (.int (m : Int)), some (.int (bg : Int)), some (.bl kn), some (.int (r : Int)), some (.ref a), some (.int L), some (.int R), some (.int (l : Int)), u10, u11, u12, u13, u14, none] ∧ SameX (· = a) H2 H6 ∧ MixAt K H6 a dx ws ∧ Cnt m bg i ws L R l) ?_ ?_ ?_
  · exact ⟨1, 2, l0, _, _, _, _, _, _, rfl, SameX.refl _, M, ok0, fair_first, fun _ => ⟨rfl, rfl⟩, fun z => absurd z (by omega), by omega⟩
  · clear ok0 M b1
    rintro i σ H6 hi ⟨L, R, l, ws, u10, u11, u12, u13, u14, rfl, s, M, Cn⟩
    have eD6 := s.kp _ _ nDa eD
    have hz : ms[i]? = some (ms[i]'(by omega)) := List.getElem?_eq_getElem (by omega)
    generalize ms[i]'(by omega) = z at hz
    have ix : ∀ {cs : List Int} {k : Nat} {v : Int}, cs[k]? = some v → atI (cs.map V.int) (k : Int) = some (.int v) := fun h => atI_nat (by rw [List.getElem?_map, h]; rfl)
    walk_at "go"
    refine g_ixL (sq_of eD6) (ix hz) ?_
    walk_at "go"
    refine ⟨z / 3, m, rfl, rfl, m6, fun C H7 nC s7 eC => ?_⟩
    have M0 := M
    obtain ⟨pm, hm1, hm2⟩ := M0
    have nCa : a ≠ C := fun y => by rw [← y, hm1] at nC; cases nC
    have nCp : pm ≠ C := fun y => by rw [← y, hm2] at nC; cases nC
    have hm1 := s7 _ _ hm1
    have hm2 := s7 _ _ hm2
    have co := chancesL_ok (z / 3) m
    generalize chancesL (z / 3) m = cs at eC co
    have eD7 := s7 _ _ eD6
    have M := M.same s7
    have nC2 : H2 C = none := s.dm _ nC
    have s := s.trans (SameX.of s7)
    clear s7
    walk_at "go"
    refine g_ixL (sq_of eD7) (ix hz) ?_
    have b01 : 0 ≤ z / 2 % 2 ∧ z / 2 % 2 ≤ 1 := by omega
    walk_at "go"
    refine g_ixL (sq_of eD7) (ix hz) ?_
    generalize z / 2 % 2 = b at b01
    walk_at "go"
    refine ⟨z, b, C, cs, m, l, rfl, rfl, rfl, rfl, sq_of eC, co.len, m1, m6, Cn.lm, fun j hj => ?_⟩
    have tail : ∀ (j : Nat) (cs : List Int) (H8 : Hp) (bk ct : St → Hp → Prop), j < m → COk m cs → SameX (· = a) H2 H8 → MixAt K H8 a dx ws → H8 C = some (.lst (cs.map V.int)) →
        (tSeq (tAsg (tMth "mixed" (one (He.ga K "Mixer") (sp_Mixer_mixed K)) (fun _ => E) (tVar 6) (tCons (tCB (rListOf K) (tCons (tVar 11) (tNil))) (tNil))) (gName 14)) (tSeq (tIfS (tOr (tNot (tTru K (tCB (rIsi2 K) (tCons (tVar 14) (tCons (tC (.ty "int")) (tNil)))))) (tNot (tTest (tChain (iLt) (iLt) (tC (.int 0)) (tVar 14) (tOp (rLsh) (tC (.int 1)) (tC (.int 24))))))) (tRet (tC (.bl false))) (tNext)) (tSeq (tIfS (tTest (tOp (iGe) (tVar 10) (tVar 3))) (tSeq (tAsg (tOp (rTimes) (tVar 7) (tFun (sp_Lgives K) [] (fun _ => E) (tCons (tOp (rIx K) (tVar 11) (tVar 13)) (tCons (tVar 12) (tNil))))) (gName 7)) (tSeq (tAsg (tOp (rTimes) (tOp (rTimes) (tOp (rTimes) (tVar 8) (tFun (sp_Lgives K) [] (fun _ => E) (tCons (tVar 14) (tCons (tVar 12) (tNil))))) (tC (.int 32))) (tVar 2)) (gName 8)) (tSeq (tIfS (tAnd (tTest (tOp (iGt) (tVar 10) (tVar 3))) (tTest (tOp (rSame K) (tVar 13) (tVar 9)))) (tAsg (tOp (rTimes) (tVar 7) (tOp (rPlus K) (tOp (rTimes) (tC (.int 31)) (tVar 2)) (tC (.int 1)))) (gName 7)) (tNext)) (tIfS (tTest (tOp (iGt) (tVar 7) (tVar 8))) (tRet (tC (.bl false))) (tNext))))) (tNext)) (tSeq (tAsg (tVar 13) (gName 9)) (tDrop (tMth "learn" (one (He.ga K "Mixer") (sp_Mixer_learn K)) (fun _ => E) (tVar 6) (tCons (tCB (rListOf K) (tCons (tVar 11) (tNil))) (tCons (tVar 12) (tNil))))))))) ⟨fun σ H6 => ∃ (L R : Int) (l : Nat) (ws : List Int) (u10 u11 u12 u13 u14 : Option V), σ = [some (.ref sc), some (.ref D), some (.int (m : Int)), some (.int (bg : Int)), some (.bl kn), some (.int (r : Int)), some (.ref a), some (.int L), some (.int R), some (.int (l : Int)), u10, u11, u12, u13, u14, none] ∧ SameX (· = a) H2 H6 ∧ MixAt K H6 a dx ws ∧ Cnt m bg (i + 1) ws L R l, Q, bk, ct⟩ [some (.ref sc), some (.ref D), some (.int (m : Int)), some (.int (bg : Int)), some (.bl kn), some (.int (r : Int)), some (.ref a), some (.int L), some (.int R), some (.int (l : Int)), some (.int (i : Int)), some (.ref C), some (.int b), some (.int (j : Int)), u14, none] H8 := by
      intro j cs H8 bk ct hj co s M eC
      have mok := mixed_ok Cn.ok co
      have hwj : ws[j]? = some (ws[j]'(by rw [Cn.ok.len]; exact hj)) := List.getElem?_eq_getElem _
      have hcj : cs[j]? = some (cs[j]'(by rw [co.len]; exact hj)) := List.getElem?_eq_getElem _
      generalize ws[j]'(by rw [Cn.ok.len]; exact hj) = wj at hwj
      generalize cs[j]'(by rw [co.len]; exact hj) = cj at hcj
      have M0 := M
      obtain ⟨pm, h1, h2⟩ := M0
      walk_at "go"
      intro c8 n8
      have e8 : (upd H8 c8 (.lst (cs.map V.int))) c8 = some (.lst (cs.map V.int)) := upd_same
      have M := M.same (same_new (u := .lst (cs.map V.int)) (Same.refl H8) n8)
      have s := s.new (o := .lst (cs.map V.int)) n8
      have eC := lk_new (u := .lst (cs.map V.int)) eC n8
      clear h1 h2
      generalize upd H8 c8 (.lst (cs.map V.int)) = H9 at e8 M s eC
      walk_at "go"
      refine ⟨a, dx, c8, ws, cs, m, rfl, rfl, M, sq_of e8, Cn.ok, co, fun H10 s10 => ?_⟩
      have M := M.same s10
      have s := s.trans (SameX.of s10)
      have eC := s10 _ _ eC
      clear s10 e8 n8
      have gm := gave_ok (b := b) mok
      have gj := gave_ok (b := b) (co.all cj (List.mem_of_getElem? hcj))
      have yes := fun h => Cn.yes (b := b) co h (by omega) hwj hcj
      have no := fun h => Cn.no (b := b) co h hj
      generalize mixedS ws cs = fd at mok gm yes
      walk_at "go"
      refine g_isi (s := "") (tn := "int") (.base (.int fd)) (b := true) (by decide +kernel) ?_
      walk_at "go"
      refine difY (by omega) ?_
      walk_at "go"
      refine difNY (by omega) ?_
      walk_at "go"
      have fin : ∀ (L' R' : Int) (bk ct : St → Hp → Prop), Cnt m bg (i + 1) (learnS ws cs b) L' R' j → (tSeq (tAsg (tVar 13) (gName 9)) (tDrop (tMth "learn" (one (He.ga K "Mixer") (sp_Mixer_learn K)) (fun _ => E) (tVar 6) (tCons (tCB (rListOf K) (tCons (tVar 11) (tNil))) (tCons (tVar 12) (tNil)))))) ⟨fun σ H6 => ∃ (L R : Int) (l : Nat) (ws : List Int) (u10 u11 u12 u13 u14 : Option V), σ = [some (.ref sc), some (.ref D), some (.int (m : Int)), some (.int (bg : Int)), some (.bl kn), some (.int (r : Int)), some (.ref a), some (.int L), some (.int R), some (.int (l : Int)), u10, u11, u12, u13, u14, none] ∧ SameX (· = a) H2 H6 ∧ MixAt K H6 a dx ws ∧ Cnt m bg (i + 1) ws L R l, Q, bk, ct⟩ [some (.ref sc), some (.ref D), some (.int (m : Int)), some (.int (bg : Int)), some (.bl kn), some (.int (r : Int)), some (.ref a), some (.int L'), some (.int R'), some (.int (l : Int)), some (.int (i : Int)), some (.ref C), some (.int b), some (.int (j : Int)), some (.int fd), none] H10 := by
        intro L' R' bk ct Cn'
        have M0 := M
        obtain ⟨pm, h1, h2⟩ := M0
        walk_at "go"
        intro c9 n9
        have e9 : (upd H10 c9 (.lst (cs.map V.int))) c9 = some (.lst (cs.map V.int)) := upd_same
        have M := M.same (same_new (u := .lst (cs.map V.int)) (Same.refl H10) n9)
        have s := s.new (o := .lst (cs.map V.int)) n9
        generalize upd H10 c9 (.lst (cs.map V.int)) = H11 at e9 M s
        walk_at "go"
        refine ⟨a, dx, c9, ws, cs, m, rfl, rfl, M, sq_of e9, Cn.ok, co, .int, (fun h => ?_), fun t et _ _ H12 X12 M12 => ?_⟩
        · rw [btw, decide_eq_true b01.1, decide_eq_true b01.2] at h
          cases h
        · cases et
          walk_at "go"
          exact ⟨L', R', j, _, _, _, _, _, _, rfl, s.trans X12, M12, Cn'⟩
      refine dif (fun hb => ?_) fun hb => ?_
      · walk_at "go"
        refine g_ixL (sq_of eC) (ix hcj) ?_
        walk_at "go"
        refine ⟨cj, b, rfl, rfl, ?_⟩
        generalize gave cj b = gj' at gj yes
        generalize egm : gave fd b = gm' at gm yes
        obtain ⟨a1, a2⟩ := yes (by omega)
        refine g_mul (.inr ⟨by omega, by omega⟩) ?_
        walk_at "go"
        refine ⟨fd, b, rfl, rfl, ?_⟩
        rw [egm]
        refine g_mul (.inr ⟨by omega, by omega⟩) ?_
        walk_at "go"
        refine dif (fun h1 => ?_) fun h1 => ?_
        · walk_at "go"
          rw [if_pos (by omega)] at a1 a2
          refine dif (fun h2 => ?_) fun h2 => ?_
          · have z : j = l := by omega
            have ef : L * nextF m l j * gj' = L * gj' * (31 * (m : Int) + 1) := by
              unfold nextF
              rw [if_pos z]
              ac_rfl
            rw [ef] at a1 a2
            walk_at "go"
            refine difX (by omega) ?_
            refine g_next ?_
            exact fin _ _ _ _ a2
          · have ef : L * nextF m l j * gj' = L * gj' := by
              unfold nextF
              rw [if_neg (by omega), Int.mul_one]
            rw [ef] at a1 a2
            walk_at "go"
            refine difX (by omega) ?_
            refine g_next ?_
            exact fin _ _ _ _ a2
        · rw [if_neg (by omega), Int.mul_one] at a1 a2
          walk_at "go"
          refine difX (by omega) ?_
          refine g_next ?_
          exact fin _ _ _ _ a2
      · refine g_next ?_
        exact fin L R _ _ (no (by omega))
    cases kn with
    | false =>
      iterate 6 walk_at "go1"
      refine iteF ?_
      refine g_next ?_
      exact tail j cs H7 _ _ hj co s M eC
    | true =>
      walk_at "go"
      refine g_floor (cdw48 (by omega) (by omega)) ?_
      walk_at "go"
      refine g_rest (show (0 : Int) < m by omega) ?_
      have b0 := Int.emod_nonneg ((i : Int) / r) (show (m : Int) ≠ 0 by omega)
      have b1 := Int.emod_lt_of_pos ((i : Int) / r) (show (0 : Int) < m by omega)
      obtain ⟨d, ed⟩ : ∃ d : Nat, (i : Int) / r % (m : Int) = (d : Int) := ⟨((i : Int) / r % (m : Int)).toNat, by omega⟩
      rw [ed] at b1 ⊢
      clear b0 ed
      walk_at "go"
      intro t nt
      have ev : ∃ v : Int, atI [V.int 32768, V.int (16777216 - 32768)] b = some (.int v) ∧ 32768 ≤ v ∧ v ≤ 16744448 := by
        have : b = 0 ∨ b = 1 := by omega
        rcases this with h | h <;> rw [h]
        · exact ⟨_, rfl, by decide, by decide⟩
        · exact ⟨_, rfl, by decide, by decide⟩
      obtain ⟨v, ev, hv⟩ := ev
      walk_at "go"
      refine g_ixL (sq_of upd_same) ev ?_
      have eC := lk_new (u := .lst [V.int 32768, V.int (16777216 - 32768)]) eC nt
      have M := M.same (same_new (u := .lst [V.int 32768, V.int (16777216 - 32768)]) (Same.refl H7) nt)
      have s := s.new (o := .lst [V.int 32768, V.int (16777216 - 32768)]) nt
      have hm1 := lk_new (u := .lst [V.int 32768, V.int (16777216 - 32768)]) hm1 nt
      have hm2 := lk_new (u := .lst [V.int 32768, V.int (16777216 - 32768)]) hm2 nt
      generalize upd H7 t (.lst [V.int 32768, V.int (16777216 - 32768)]) = H8 at eC M s hm1 hm2
      walk_at "go"
      refine g_setL eC (by rw [List.length_map, co.len]; omega) ?_
      have eC9 : (upd H8 C (.lst ((cs.map V.int).set d (.int v)))) C = some (.lst ((cs.set d v).map V.int)) := by rw [upd_same, List.map_set]
      exact tail d (cs.set d v) _ _ _ (by omega) (co.set d hv) (s.newmut nC2) ⟨pm, lk_mut nCa hm1, lk_mut nCp hm2⟩ eC9
  · rintro σ H6 ⟨L, R, l, ws, u10, u11, u12, u13, u14, rfl, s, M, Cn⟩
    walk_at "go"
    exact q _
def t_law (K : PySem.W.Frag) (E : XK) : TS :=
  tSeq (tAsg (tLc (iList K (tSl (rSlL K) (tVar 0) (tNoPart) (tPart (tC (.int 250))))) (gName 15) (tYes) (tOp (rRest) (tVar 15) (tOp (rPow) (tC (.int 10)) (tC (.int 30)))) [15]) (gName 1))
  (tSeq (tAsg (tOp (rPlus K) (tC (.int 1)) (tOp (rRest) (tCB (rSum K) (tCons (tSl (rSlL K) (tVar 1) (tNoPart) (tPart (tC (.int 1)))) (tNil))) (tC (.int 6)))) (gName 2))
  (tSeq (tAsg (tOp (rRest) (tOp (rFloor) (tCB (rSum K) (tCons (tSl (rSlL K) (tVar 1) (tNoPart) (tPart (tC (.int 1)))) (tNil))) (tC (.int 6))) (tOp (rPlus K) (tCB (rLength K) (tCons (tVar 1) (tNil))) (tC (.int 1)))) (gName 3))
  (tSeq (tIfS (tTest (tOp (rSame K) (tOp (rRest) (tCB (rSum K) (tCons (tSl (rSlL K) (tVar 1) (tPart (tC (.int 1))) (tPart (tC (.int 2)))) (tNil))) (tC (.int 2))) (tC (.int 0)))) (tAsg (tC (.int 0)) (gName 3)) (tNext))
  (tSeq (tAsg (tOp (rSame K) (tOp (rRest) (tOp (rFloor) (tCB (rSum K) (tCons (tSl (rSlL K) (tVar 1) (tPart (tC (.int 1))) (tPart (tC (.int 2)))) (tNil))) (tC (.int 2))) (tC (.int 2))) (tC (.int 1))) (gName 4))
  (tSeq (tAsg (tOp (rPlus K) (tC (.int 1)) (tOp (rRest) (tOp (rFloor) (tCB (rSum K) (tCons (tSl (rSlL K) (tVar 1) (tPart (tC (.int 1))) (tPart (tC (.int 2)))) (tNil))) (tC (.int 4))) (tC (.int 12)))) (gName 5))
  (tSeq (tAsg (tNew (He.ga K "Mixer") (sp_Mixer_init K) [] (fun _ => E) (tCons (tVar 2) (tNil))) (gName 6))
  (tSeq (tAsg (tC (.int 1)) (gName 7))
  (tSeq (tAsg (tC (.int 2)) (gName 8))
  (tSeq (tAsg (tOp (rRest) (tOp (rFloor) (tCB (rSum K) (tCons (tSl (rSlL K) (tVar 1) (tNoPart) (tPart (tC (.int 1)))) (tNil))) (tC (.int 7))) (tVar 2)) (gName 9))
  (tSeq (tFor (iRng1 (tCons (tCB (rLength K) (tCons (tVar 1) (tNil))) (tNil))) (gName 10) (tSeq (tAsg (tFun (sp_Lchances K) [] (fun _ => E) (tCons (tOp (rFloor) (tOp (rIx K) (tVar 1) (tVar 10)) (tC (.int 3))) (tCons (tVar 2) (tNil)))) (gName 11))
  (tSeq (tAsg (tOp (rRest) (tOp (rFloor) (tOp (rIx K) (tVar 1) (tVar 10)) (tC (.int 2))) (tC (.int 2))) (gName 12))
  (tSeq (tAsg (tFun (sp_Ldrawn K) [] (fun _ => E) (tCons (tOp (rIx K) (tVar 1) (tVar 10)) (tCons (tVar 11) (tCons (tVar 12) (tCons (tVar 9) (tNil)))))) (gName 13))
  (tSeq (tIfS (tTru K (tVar 4)) (tSeq (tAsg (tOp (rRest) (tOp (rFloor) (tVar 10) (tVar 5)) (tVar 2)) (gName 13))
  (tAsg (tOp (rIx K) (tLst (tCons (tOp (rLsh) (tC (.int 1)) (tC (.int 15))) (tCons (tOp (rMinus) (tOp (rLsh) (tC (.int 1)) (tC (.int 24))) (tOp (rLsh) (tC (.int 1)) (tC (.int 15)))) (tNil)))) (tVar 12)) (gSub (tVar 11) (tVar 13) rSetL))) (tNext))
  (tSeq (tAsg (tMth "mixed" (one (He.ga K "Mixer") (sp_Mixer_mixed K)) (fun _ => E) (tVar 6) (tCons (tCB (rListOf K) (tCons (tVar 11) (tNil))) (tNil))) (gName 14))
  (tSeq (tIfS (tOr (tNot (tTru K (tCB (rIsi2 K) (tCons (tVar 14) (tCons (tC (.ty "int")) (tNil)))))) (tNot (tTest (tChain (iLt) (iLt) (tC (.int 0)) (tVar 14) (tOp (rLsh) (tC (.int 1)) (tC (.int 24))))))) (tRet (tC (.bl false))) (tNext))
  (tSeq (tIfS (tTest (tOp (iGe) (tVar 10) (tVar 3))) (tSeq (tAsg (tOp (rTimes) (tVar 7) (tFun (sp_Lgives K) [] (fun _ => E) (tCons (tOp (rIx K) (tVar 11) (tVar 13)) (tCons (tVar 12) (tNil))))) (gName 7))
  (tSeq (tAsg (tOp (rTimes) (tOp (rTimes) (tOp (rTimes) (tVar 8) (tFun (sp_Lgives K) [] (fun _ => E) (tCons (tVar 14) (tCons (tVar 12) (tNil))))) (tC (.int 32))) (tVar 2)) (gName 8))
  (tSeq (tIfS (tAnd (tTest (tOp (iGt) (tVar 10) (tVar 3))) (tTest (tOp (rSame K) (tVar 13) (tVar 9)))) (tAsg (tOp (rTimes) (tVar 7) (tOp (rPlus K) (tOp (rTimes) (tC (.int 31)) (tVar 2)) (tC (.int 1)))) (gName 7)) (tNext))
  (tIfS (tTest (tOp (iGt) (tVar 7) (tVar 8))) (tRet (tC (.bl false))) (tNext))))) (tNext))
  (tSeq (tAsg (tVar 13) (gName 9))
  (tDrop (tMth "learn" (one (He.ga K "Mixer") (sp_Mixer_learn K)) (fun _ => E) (tVar 6) (tCons (tCB (rListOf K) (tCons (tVar 11) (tNil))) (tCons (tVar 12) (tNil))))))))))))))
  (tRet (tC (.bl true)))))))))))))
theorem pure_law {x : V} {H : Hp} {Q : VK} {E : XK} (h : F_law K x H Q E) : t_law K E ⟨fun _ H' => Q .non H', Q, fun _ _ => False, fun _ _ => False⟩ [some x, none, none, none, none, none, none, none, none, none, none, none, none, none, none, none] H := by
  obtain ⟨sc, ns, rfl, hs, hn, q⟩ := h
  have tail := @law_tail K
  unfold t_law
  walk_at "go"
  intro c nc
  have cl : (cutL ns none (some 250)).length ≤ 63 := Nat.le_trans (cutL_len _ _ _) hn
  have ec : (upd H c (.lst (cutV (ns.map V.int) none (some 250)))) c = some (.lst ((cutL ns none (some 250)).map V.int)) := by rw [upd_same, cutV_map]
  generalize upd H c (.lst (cutV (ns.map V.int) none (some 250))) = H1 at ec
  generalize cutL ns none (some 250) = zs at cl ec
  clear nc
  refine lc_LI (sq_of ec) (fun z => .int (z % 1000000000000000000000000000000)) (by omega) (fun z _ D2 H6 Q6 s6 k => ?_) fun D H2 nD s2 eD => ?_
  · walk_at "go"
    exact k _ (Same.refl _)
  have eD : H2 D = some (.lst ((zs.map fun z => z % 1000000000000000000000000000000).map V.int)) := by rw [eD, List.map_map]; rfl
  have ml : (zs.map fun z => z % 1000000000000000000000000000000).length ≤ 63 := by rw [List.length_map]; exact cl
  generalize (zs.map fun z => z % 1000000000000000000000000000000) = ms at eD ml
  clear s2 nD ec cl
  walk_at "go"
  intro c1 nc1
  have ec1 : (upd H2 c1 (.lst (cutV (ms.map V.int) none (some 1)))) c1 = some (.lst ((cutL ms none (some 1)).map V.int)) := by rw [upd_same, cutV_map]
  have eD := lk_new (u := (.lst (cutV (ms.map V.int) none (some 1)))) eD nc1
  generalize upd H2 c1 (.lst (cutV (ms.map V.int) none (some 1))) = H3 at ec1 eD
  walk_at "go"
  refine g_sum (ns := cutL ms none (some 1)) (sq_of ec1) ?_
  clear nc1 ec1
  walk_at "go"
  intro c2 nc2
  have ec2 : (upd H3 c2 (.lst (cutV (ms.map V.int) none (some 1)))) c2 = some (.lst ((cutL ms none (some 1)).map V.int)) := by rw [upd_same, cutV_map]
  have eD := lk_new (u := (.lst (cutV (ms.map V.int) none (some 1)))) eD nc2
  generalize upd H3 c2 (.lst (cutV (ms.map V.int) none (some 1))) = H4 at ec2 eD
  walk_at "go"
  refine g_sum (ns := cutL ms none (some 1)) (sq_of ec2) ?_
  clear nc2 ec2
  walk_at "go"
  rw [List.length_map]
  generalize (cutL ms none (some 1)).sum = w0
  refine g_rest (show (0 : Int) < (ms.length : Int) + 1 by omega) ?_
  have b0 := Int.emod_nonneg (w0 / 6) (show (ms.length : Int) + 1 ≠ 0 by omega)
  obtain ⟨bg, eb⟩ : ∃ bg : Nat, w0 / 6 % ((ms.length : Int) + 1) = (bg : Int) := ⟨(w0 / 6 % ((ms.length : Int) + 1)).toNat, by omega⟩
  rw [eb]
  obtain ⟨m, em, m1, m6⟩ : ∃ m : Nat, 1 + w0 % 6 = (m : Int) ∧ 1 ≤ m ∧ m ≤ 6 := ⟨(1 + w0 % 6).toNat, by omega, by omega, by omega⟩
  rw [em]
  clear b0 eb em
  have step : ∀ (bg : Nat) (H4 : Hp), H4 D = some (.lst (ms.map V.int)) → (tSeq (tAsg (tOp (rSame K) (tOp (rRest) (tOp (rFloor) (tCB (rSum K) (tCons (tSl (rSlL K) (tVar 1) (tPart (tC (.int 1))) (tPart (tC (.int 2)))) (tNil))) (tC (.int 2))) (tC (.int 2))) (tC (.int 1))) (gName 4)) (tSeq (tAsg (tOp (rPlus K) (tC (.int 1)) (tOp (rRest) (tOp (rFloor) (tCB (rSum K) (tCons (tSl (rSlL K) (tVar 1) (tPart (tC (.int 1))) (tPart (tC (.int 2)))) (tNil))) (tC (.int 4))) (tC (.int 12)))) (gName 5)) (tSeq (tAsg (tNew (He.ga K "Mixer") (sp_Mixer_init K) [] (fun _ => E) (tCons (tVar 2) (tNil))) (gName 6)) (tSeq (tAsg (tC (.int 1)) (gName 7)) (tSeq (tAsg (tC (.int 2)) (gName 8)) (tSeq (tAsg (tOp (rRest) (tOp (rFloor) (tCB (rSum K) (tCons (tSl (rSlL K) (tVar 1) (tNoPart) (tPart (tC (.int 1)))) (tNil))) (tC (.int 7))) (tVar 2)) (gName 9)) (tSeq (tFor (iRng1 (tCons (tCB (rLength K) (tCons (tVar 1) (tNil))) (tNil))) (gName 10) (tSeq (tAsg (tFun (sp_Lchances K) [] (fun _ => E) (tCons (tOp (rFloor) (tOp (rIx K) (tVar 1) (tVar 10)) (tC (.int 3))) (tCons (tVar 2) (tNil)))) (gName 11)) (tSeq (tAsg (tOp (rRest) (tOp (rFloor) (tOp (rIx K) (tVar 1) (tVar 10)) (tC (.int 2))) (tC (.int 2))) (gName 12)) (tSeq (tAsg (tFun (sp_Ldrawn K) [] (fun _ => E) (tCons (tOp (rIx K) (tVar 1) (tVar 10)) (tCons (tVar 11) (tCons (tVar 12) (tCons (tVar 9) (tNil)))))) (gName 13)) (tSeq (tIfS (tTru K (tVar 4)) (tSeq (tAsg (tOp (rRest) (tOp (rFloor) (tVar 10) (tVar 5)) (tVar 2)) (gName 13)) (tAsg (tOp (rIx K) (tLst (tCons (tOp (rLsh) (tC (.int 1)) (tC (.int 15))) (tCons (tOp (rMinus) (tOp (rLsh) (tC (.int 1)) (tC (.int 24))) (tOp (rLsh) (tC (.int 1)) (tC (.int 15)))) (tNil)))) (tVar 12)) (gSub (tVar 11) (tVar 13) rSetL))) (tNext)) (tSeq (tAsg (tMth "mixed" (one (He.ga K "Mixer") (sp_Mixer_mixed K)) (fun _ => E) (tVar 6) (tCons (tCB (rListOf K) (tCons (tVar 11) (tNil))) (tNil))) (gName 14)) (tSeq (tIfS (tOr (tNot (tTru K (tCB (rIsi2 K) (tCons (tVar 14) (tCons (tC (.ty "int")) (tNil)))))) (tNot (tTest (tChain (iLt) (iLt) (tC (.int 0)) (tVar 14) (tOp (rLsh) (tC (.int 1)) (tC (.int 24))))))) (tRet (tC (.bl false))) (tNext)) (tSeq (tIfS (tTest (tOp (iGe) (tVar 10) (tVar 3))) (tSeq (tAsg (tOp (rTimes) (tVar 7) (tFun (sp_Lgives K) [] (fun _ => E) (tCons (tOp (rIx K) (tVar 11) (tVar 13)) (tCons (tVar 12) (tNil))))) (gName 7)) (tSeq (tAsg (tOp (rTimes) (tOp (rTimes) (tOp (rTimes) (tVar 8) (tFun (sp_Lgives K) [] (fun _ => E) (tCons (tVar 14) (tCons (tVar 12) (tNil))))) (tC (.int 32))) (tVar 2)) (gName 8)) (tSeq (tIfS (tAnd (tTest (tOp (iGt) (tVar 10) (tVar 3))) (tTest (tOp (rSame K) (tVar 13) (tVar 9)))) (tAsg (tOp (rTimes) (tVar 7) (tOp (rPlus K) (tOp (rTimes) (tC (.int 31)) (tVar 2)) (tC (.int 1)))) (gName 7)) (tNext)) (tIfS (tTest (tOp (iGt) (tVar 7) (tVar 8))) (tRet (tC (.bl false))) (tNext))))) (tNext)) (tSeq (tAsg (tVar 13) (gName 9)) (tDrop (tMth "learn" (one (He.ga K "Mixer") (sp_Mixer_learn K)) (fun _ => E) (tVar 6) (tCons (tCB (rListOf K) (tCons (tVar 11) (tNil))) (tCons (tVar 12) (tNil)))))))))))))) (tRet (tC (.bl true)))))))))) ⟨fun _ H' => Q .non H', Q, fun _ _ => False, fun _ _ => False⟩ [some (.ref sc), some (.ref D), some (.int (m : Int)), some (.int (bg : Int)), none, none, none, none, none, none, none, none, none, none, none, none] H4 := by
    intro bg H4 eD
    walk_at "go"
    intro c5 nc5
    have ec5 : (upd H4 c5 (.lst (cutV (ms.map V.int) (some 1) (some 2)))) c5 = some (.lst ((cutL ms (some 1) (some 2)).map V.int)) := by rw [upd_same, cutV_map]
    have eD := lk_new (u := (.lst (cutV (ms.map V.int) (some 1) (some 2)))) eD nc5
    generalize upd H4 c5 (.lst (cutV (ms.map V.int) (some 1) (some 2))) = H5 at ec5 eD
    walk_at "go"
    refine g_sum (ns := cutL ms (some 1) (some 2)) (sq_of ec5) ?_
    clear nc5 ec5
    walk_at "go"
    intro c6 nc6
    have ec6 : (upd H5 c6 (.lst (cutV (ms.map V.int) (some 1) (some 2)))) c6 = some (.lst ((cutL ms (some 1) (some 2)).map V.int)) := by rw [upd_same, cutV_map]
    have eD := lk_new (u := (.lst (cutV (ms.map V.int) (some 1) (some 2)))) eD nc6
    generalize upd H5 c6 (.lst (cutV (ms.map V.int) (some 1) (some 2))) = H6 at ec6 eD
    walk_at "go"
    refine g_sum (ns := cutL ms (some 1) (some 2)) (sq_of ec6) ?_
    clear nc6 ec6
    generalize (cutL ms (some 1) (some 2)).sum = w1
    obtain ⟨r, er, r1, r12⟩ : ∃ r : Nat, 1 + w1 / 4 % 12 = (r : Int) ∧ 1 ≤ r ∧ r ≤ 12 := ⟨(1 + w1 / 4 % 12).toNat, by omega, by omega, by omega⟩
    iterate 6 walk_at "go1"
    rw [er]
    exact tail eD ml m1 m6 r1 r12 q
  walk_at "go"
  intro c4 nc4
  have ec4 : (upd H4 c4 (.lst (cutV (ms.map V.int) (some 1) (some 2)))) c4 = some (.lst ((cutL ms (some 1) (some 2)).map V.int)) := by rw [upd_same, cutV_map]
  have eD := lk_new (u := (.lst (cutV (ms.map V.int) (some 1) (some 2)))) eD nc4
  generalize upd H4 c4 (.lst (cutV (ms.map V.int) (some 1) (some 2))) = H5 at ec4 eD
  walk_at "go"
  refine g_sum (ns := cutL ms (some 1) (some 2)) (sq_of ec4) ?_
  clear nc4 ec4
  walk_at "go"
  refine dif (fun h => ?_) fun h => ?_
  · iterate 1 walk_at "go1"
    exact step 0 H5 eD
  · refine g_next ?_
    exact step bg H5 eD
theorem law_here (K : PySem.W.Frag) (H : Hp) (a : Addr) (ns : List Int) (hl : ns.length ≤ 63) (hS : SqL K H a (ns.map V.int)) : sp_law K [.ref a] H (fun v _ => v = .bl true) fun _ _ _ => False :=
  ⟨.ref a, rfl, a, ns, rfl, hS, hl, fun _ => rfl⟩
end
end Fo
namespace Fo
open PySem PySem.Spec PyProof.Rows L2
section
variable {P : Program} {w : World} {K : PySem.W.Frag} {mg : Str → Option Value} {base h : Heap}
theorem cb_is_whole (KX : K.In h) (G : h.Ns mainGlobals mg) (c : SaysX fa fn xf K) : Cb P w K mg base 1 (He.fAd K ("is_whole", none)) ["thing"] [] (sp_is_whole K) :=
  cb_of (T := t_is_whole K) (c.def_ 0 rfl) sc_is_whole (fun vs H Q E h => by
    obtain ⟨_, rfl, _⟩ := h
    rfl) (fun _ _ _ _ _ _ us hl => match us, hl with | [_], _ => rfl)
   (fun cdv A outer s H E hr => by
    have nd := sc_is_whole.nd
    have ho := out_def (cxD_takes (P := P) (w := w) (K := K) (mg := mg) (base := base) (N := N_is_whole) (qual := "is_whole") (st := s_is_whole) (f := He.fAd K ("is_whole", none)) (cdv := cdv) (A := A) (outer := outer) (s := s) (H := H) (E := E))
    have tk := cxD_takes (P := P) (w := w) (K := K) (mg := mg) (base := base) (N := N_is_whole) (qual := "is_whole") (st := s_is_whole) (f := He.fAd K ("is_whole", none)) (cdv := cdv) (A := A) (outer := outer) (s := s) (H := H) (E := E)
    have pz := cxD_passes (P := P) (w := w) (K := K) (mg := mg) (base := base) (N := N_is_whole) (qual := "is_whole") (st := s_is_whole) (f := He.fAd K ("is_whole", none)) (cdv := cdv) (A := A) (outer := outer) (s := s) (H := H) (E := E)
    exact pss_one (ps_ret (pe_and (pe_callB c_isi (by rfl) (He.free_ok KX G (c.fact 2 rfl)) (by decide +kernel) (pa_cons (pv 0) (pa_cons (pe_gty (He.free_ok KX G (c.fact 3 rfl)) (by decide +kernel)) (pa_nil)))) (pe_one (pe_not (pe_callB c_isi (by rfl) (He.free_ok KX G (c.fact 2 rfl)) (by decide +kernel) (pa_cons (pv 0) (pa_cons (pe_gty (He.free_ok KX G (c.fact 4 rfl)) (by decide +kernel)) (pa_nil)))))))))
   (fun vs H Q E h => by
    obtain ⟨_, rfl, h⟩ := h
    haveI : HasCls K "Mixer" := ⟨He.cls_ok (c.fact 0 rfl)⟩
    haveI : HasNo K "Mixer" "shares" := ⟨He.noat_ok (c.fact 1 rfl)⟩
    exact pure_is_whole K h)
theorem cb_Mixer_init (KX : K.In h) (G : h.Ns mainGlobals mg) (c : SaysX fa fn xf K) : Cb P w K mg base 1 (He.fAd K ("Mixer", some "__init__")) ["self", "many"] [] (sp_Mixer_init K) :=
  cb_of (T := t_Mixer_init K) (c.def_ 6 rfl) sc_Mixer_init (fun vs H Q E h => by
    obtain ⟨_, _, rfl, _⟩ := h
    rfl) (fun _ _ _ _ _ _ us hl => match us, hl with | [_, _], _ => rfl)
   (fun cdv A outer s H E hr => by
    have nd := sc_Mixer_init.nd
    have ho := out_def (cxD_takes (P := P) (w := w) (K := K) (mg := mg) (base := base) (N := N_Mixer_init) (qual := "Mixer.__init__") (st := s_Mixer_init) (f := He.fAd K ("Mixer", some "__init__")) (cdv := cdv) (A := A) (outer := outer) (s := s) (H := H) (E := E))
    have tk := cxD_takes (P := P) (w := w) (K := K) (mg := mg) (base := base) (N := N_Mixer_init) (qual := "Mixer.__init__") (st := s_Mixer_init) (f := He.fAd K ("Mixer", some "__init__")) (cdv := cdv) (A := A) (outer := outer) (s := s) (H := H) (E := E)
    have pz := cxD_passes (P := P) (w := w) (K := K) (mg := mg) (base := base) (N := N_Mixer_init) (qual := "Mixer.__init__") (st := s_Mixer_init) (f := He.fAd K ("Mixer", some "__init__")) (cdv := cdv) (A := A) (outer := outer) (s := s) (H := H) (E := E)
    exact pss_one (ps_fld (pv 0) (pe_op o_times (pe_lst (pa_cons (pe_gint (He.int_ok KX G (c.fact 5 rfl))) (pa_nil))) (pv 1)) rfl))
   (fun vs H Q E h => by
    obtain ⟨_, _, rfl, h⟩ := h
    haveI : HasCls K "Mixer" := ⟨He.cls_ok (c.fact 0 rfl)⟩
    haveI : HasNo K "Mixer" "shares" := ⟨He.noat_ok (c.fact 1 rfl)⟩
    exact pure_Mixer_init K h)
theorem cb_Mixer_mixed (KX : K.In h) (G : h.Ns mainGlobals mg) (c : SaysX fa fn xf K) : Cb P w K mg base 1 (He.fAd K ("Mixer", some "mixed")) ["self", "chances"] [] (sp_Mixer_mixed K) :=
  cb_of (T := t_Mixer_mixed K) (c.def_ 7 rfl) sc_Mixer_mixed (fun vs H Q E h => by
    obtain ⟨_, _, rfl, _⟩ := h
    rfl) (fun _ _ _ _ _ _ us hl => match us, hl with | [_, _], _ => rfl)
   (fun cdv A outer s H E hr => by
    have nd := sc_Mixer_mixed.nd
    have ho := out_def (cxD_takes (P := P) (w := w) (K := K) (mg := mg) (base := base) (N := N_Mixer_mixed) (qual := "Mixer.mixed") (st := s_Mixer_mixed) (f := He.fAd K ("Mixer", some "mixed")) (cdv := cdv) (A := A) (outer := outer) (s := s) (H := H) (E := E))
    have tk := cxD_takes (P := P) (w := w) (K := K) (mg := mg) (base := base) (N := N_Mixer_mixed) (qual := "Mixer.mixed") (st := s_Mixer_mixed) (f := He.fAd K ("Mixer", some "mixed")) (cdv := cdv) (A := A) (outer := outer) (s := s) (H := H) (E := E)
    have pz := cxD_passes (P := P) (w := w) (K := K) (mg := mg) (base := base) (N := N_Mixer_mixed) (qual := "Mixer.mixed") (st := s_Mixer_mixed) (f := He.fAd K ("Mixer", some "mixed")) (cdv := cdv) (A := A) (outer := outer) (s := s) (H := H) (E := E)
    exact pss_cons (ps_set (i := 2) nd rfl (by first | exact Or.inl rfl | exact Or.inr rfl) (pe_int))
       (pss_cons (ps_for pz rfl (pi_zip (by rfl) (He.free_ok KX G (c.fact 6 rfl)) (pa_cons (pe_fld (pv 0) rfl) (pa_cons (pv 1) (pa_nil)))) (pg_tup rfl (pgs_cons (pg_name (i := 3) nd rfl (by first | exact Or.inl rfl | exact Or.inr rfl)) (pgs_cons (pg_name (i := 4) nd rfl (by first | exact Or.inl rfl | exact Or.inr rfl)) (pgs_nil)))) (pss_one (ps_aug (i := 2) nd rfl (by first | exact Or.inl rfl | exact Or.inr rfl) (pe_op o_times (pv 3) (pv 4)) ip_add)))
       (pss_one (ps_ret (pe_op o_floor (pv 2) (pe_callB (c_sum rfl) (by rfl) (He.free_ok KX G (c.fact 7 rfl)) (by decide +kernel) (pa_cons (pe_fld (pv 0) rfl) (pa_nil))))))))
   (fun vs H Q E h => by
    obtain ⟨_, _, rfl, h⟩ := h
    haveI : HasCls K "Mixer" := ⟨He.cls_ok (c.fact 0 rfl)⟩
    haveI : HasNo K "Mixer" "shares" := ⟨He.noat_ok (c.fact 1 rfl)⟩
    exact pure_Mixer_mixed K h)
theorem cb_Lchance (KX : K.In h) (G : h.Ns mainGlobals mg) (c : SaysX fa fn xf K) : Cb P w K mg base 1 (He.fAd K ("_law_chance", none)) ["_law_cell", "_law_k"] [] (sp_Lchance K) :=
  cb_of (T := t_Lchance K) (c.def_ 9 rfl) sc_Lchance (fun vs H Q E h => by
    obtain ⟨_, _, rfl, _⟩ := h
    rfl) (fun _ _ _ _ _ _ us hl => match us, hl with | [_, _], _ => rfl)
   (fun cdv A outer s H E hr => by
    have nd := sc_Lchance.nd
    have ho := out_def (cxD_takes (P := P) (w := w) (K := K) (mg := mg) (base := base) (N := N_Lchance) (qual := "_law_chance") (st := s_Lchance) (f := He.fAd K ("_law_chance", none)) (cdv := cdv) (A := A) (outer := outer) (s := s) (H := H) (E := E))
    have tk := cxD_takes (P := P) (w := w) (K := K) (mg := mg) (base := base) (N := N_Lchance) (qual := "_law_chance") (st := s_Lchance) (f := He.fAd K ("_law_chance", none)) (cdv := cdv) (A := A) (outer := outer) (s := s) (H := H) (E := E)
    have pz := cxD_passes (P := P) (w := w) (K := K) (mg := mg) (base := base) (N := N_Lchance) (qual := "_law_chance") (st := s_Lchance) (f := He.fAd K ("_law_chance", none)) (cdv := cdv) (A := A) (outer := outer) (s := s) (H := H) (E := E)
    exact pss_cons (ps_set (i := 2) nd rfl (by first | exact Or.inl rfl | exact Or.inr rfl) (pe_ix ix_seq (pe_lst (pa_cons (pe_int) (pa_cons (pe_int) (pa_cons (pe_int) (pa_cons (pe_int) (pa_cons (pe_int) (pa_cons (pe_int) (pa_nil)))))))) (pv 1) (fun _ _ => rfl)))
       (pss_cons (ps_set (i := 3) nd rfl (by first | exact Or.inl rfl | exact Or.inr rfl) (pe_op o_rest (pe_op o_times (pe_op o_plus (pv 0) (pe_int)) (pv 2)) (pe_int)))
       (pss_cons (ps_set (i := 4) nd rfl (by first | exact Or.inl rfl | exact Or.inr rfl) (pe_op o_rest (pv 3) (pe_int)))
       (pss_cons (ps_if (pt_cmpR o_lt (pv 4) (pe_int) (nomark _)) (pss_one (ps_ret (pe_ix ix_seq (pe_lst (pa_cons (pe_op o_lsh (pe_int) (pe_int)) (pa_cons (pe_op o_minus (pe_op o_lsh (pe_int) (pe_int)) (pe_op o_lsh (pe_int) (pe_int))) (pa_cons (pe_op o_lsh (pe_int) (pe_int)) (pa_nil))))) (pv 4) (fun _ _ => rfl)))) (pss_nil))
       (pss_one (ps_ret (pe_op o_plus (pe_op o_lsh (pe_int) (pe_int)) (pe_op o_rest (pe_op o_floor (pv 3) (pe_int)) (pe_op o_plus (pe_op o_minus (pe_op o_lsh (pe_int) (pe_int)) (pe_op o_lsh (pe_int) (pe_int))) (pe_int))))))))))
   (fun vs H Q E h => by
    obtain ⟨_, _, rfl, h⟩ := h
    haveI : HasCls K "Mixer" := ⟨He.cls_ok (c.fact 0 rfl)⟩
    haveI : HasNo K "Mixer" "shares" := ⟨He.noat_ok (c.fact 1 rfl)⟩
    exact pure_Lchance K h)
theorem cb_Lgives (KX : K.In h) (G : h.Ns mainGlobals mg) (c : SaysX fa fn xf K) : Cb P w K mg base 1 (He.fAd K ("_law_gives", none)) ["_law_chance_here", "_law_bit"] [] (sp_Lgives K) :=
  cb_of (T := t_Lgives K) (c.def_ 11 rfl) sc_Lgives (fun vs H Q E h => by
    obtain ⟨_, _, rfl, _⟩ := h
    rfl) (fun _ _ _ _ _ _ us hl => match us, hl with | [_, _], _ => rfl)
   (fun cdv A outer s H E hr => by
    have nd := sc_Lgives.nd
    have ho := out_def (cxD_takes (P := P) (w := w) (K := K) (mg := mg) (base := base) (N := N_Lgives) (qual := "_law_gives") (st := s_Lgives) (f := He.fAd K ("_law_gives", none)) (cdv := cdv) (A := A) (outer := outer) (s := s) (H := H) (E := E))
    have tk := cxD_takes (P := P) (w := w) (K := K) (mg := mg) (base := base) (N := N_Lgives) (qual := "_law_gives") (st := s_Lgives) (f := He.fAd K ("_law_gives", none)) (cdv := cdv) (A := A) (outer := outer) (s := s) (H := H) (E := E)
    have pz := cxD_passes (P := P) (w := w) (K := K) (mg := mg) (base := base) (N := N_Lgives) (qual := "_law_gives") (st := s_Lgives) (f := He.fAd K ("_law_gives", none)) (cdv := cdv) (A := A) (outer := outer) (s := s) (H := H) (E := E)
    exact pss_cons (ps_if (pt_cmpR (o_same hr.units) (pv 1) (pe_int) (nomark _)) (pss_one (ps_ret (pv 0))) (pss_nil))
       (pss_one (ps_ret (pe_op o_minus (pe_op o_lsh (pe_int) (pe_int)) (pv 0)))))
   (fun vs H Q E h => by
    obtain ⟨_, _, rfl, h⟩ := h
    haveI : HasCls K "Mixer" := ⟨He.cls_ok (c.fact 0 rfl)⟩
    haveI : HasNo K "Mixer" "shares" := ⟨He.noat_ok (c.fact 1 rfl)⟩
    exact pure_Lgives K h)
theorem cb_is_bit (KX : K.In h) (G : h.Ns mainGlobals mg) (c : SaysX fa fn xf K) : Cb P w K mg base 2 (He.fAd K ("is_bit", none)) ["thing"] [] (sp_is_bit K) :=
  cb_of (T := t_is_bit K) (c.def_ 1 rfl) sc_is_bit (fun vs H Q E h => by
    obtain ⟨_, rfl, _⟩ := h
    rfl) (fun _ _ _ _ _ _ us hl => match us, hl with | [_], _ => rfl)
   (fun cdv A outer s H E hr => by
    have nd := sc_is_bit.nd
    have ho := out_def (cxD_takes (P := P) (w := w) (K := K) (mg := mg) (base := base) (N := N_is_bit) (qual := "is_bit") (st := s_is_bit) (f := He.fAd K ("is_bit", none)) (cdv := cdv) (A := A) (outer := outer) (s := s) (H := H) (E := E))
    have tk := cxD_takes (P := P) (w := w) (K := K) (mg := mg) (base := base) (N := N_is_bit) (qual := "is_bit") (st := s_is_bit) (f := He.fAd K ("is_bit", none)) (cdv := cdv) (A := A) (outer := outer) (s := s) (H := H) (E := E)
    have pz := cxD_passes (P := P) (w := w) (K := K) (mg := mg) (base := base) (N := N_is_bit) (qual := "is_bit") (st := s_is_bit) (f := He.fAd K ("is_bit", none)) (cdv := cdv) (A := A) (outer := outer) (s := s) (H := H) (E := E)
    exact pss_one (ps_ret (pe_and (pe_fun (cb_is_whole KX G c) (hr.mono (by decide)) (He.glo_ok KX G (c.fact 8 rfl)) ho (pa_cons (pv 0) (pa_nil))) (pe_one (pe_chain o_le o_le (pe_int) (pv 0) (pe_int))))))
   (fun vs H Q E h => by
    obtain ⟨_, rfl, h⟩ := h
    haveI : HasCls K "Mixer" := ⟨He.cls_ok (c.fact 0 rfl)⟩
    haveI : HasNo K "Mixer" "shares" := ⟨He.noat_ok (c.fact 1 rfl)⟩
    exact pure_is_bit K h)
theorem cb_is_chance (KX : K.In h) (G : h.Ns mainGlobals mg) (c : SaysX fa fn xf K) : Cb P w K mg base 2 (He.fAd K ("is_chance", none)) ["thing"] [] (sp_is_chance K) :=
  cb_of (T := t_is_chance K) (c.def_ 2 rfl) sc_is_chance (fun vs H Q E h => by
    obtain ⟨_, rfl, _⟩ := h
    rfl) (fun _ _ _ _ _ _ us hl => match us, hl with | [_], _ => rfl)
   (fun cdv A outer s H E hr => by
    have nd := sc_is_chance.nd
    have ho := out_def (cxD_takes (P := P) (w := w) (K := K) (mg := mg) (base := base) (N := N_is_chance) (qual := "is_chance") (st := s_is_chance) (f := He.fAd K ("is_chance", none)) (cdv := cdv) (A := A) (outer := outer) (s := s) (H := H) (E := E))
    have tk := cxD_takes (P := P) (w := w) (K := K) (mg := mg) (base := base) (N := N_is_chance) (qual := "is_chance") (st := s_is_chance) (f := He.fAd K ("is_chance", none)) (cdv := cdv) (A := A) (outer := outer) (s := s) (H := H) (E := E)
    have pz := cxD_passes (P := P) (w := w) (K := K) (mg := mg) (base := base) (N := N_is_chance) (qual := "is_chance") (st := s_is_chance) (f := He.fAd K ("is_chance", none)) (cdv := cdv) (A := A) (outer := outer) (s := s) (H := H) (E := E)
    exact pss_one (ps_ret (pe_and (pe_fun (cb_is_whole KX G c) (hr.mono (by decide)) (He.glo_ok KX G (c.fact 8 rfl)) ho (pa_cons (pv 0) (pa_nil))) (pe_one (pe_chain o_le o_le (pe_gint (He.int_ok KX G (c.fact 9 rfl))) (pv 0) (pe_op o_minus (pe_gint (He.int_ok KX G (c.fact 10 rfl))) (pe_gint (He.int_ok KX G (c.fact 9 rfl)))))))))
   (fun vs H Q E h => by
    obtain ⟨_, rfl, h⟩ := h
    haveI : HasCls K "Mixer" := ⟨He.cls_ok (c.fact 0 rfl)⟩
    haveI : HasNo K "Mixer" "shares" := ⟨He.noat_ok (c.fact 1 rfl)⟩
    exact pure_is_chance K h)
theorem cb_Lchances (KX : K.In h) (G : h.Ns mainGlobals mg) (c : SaysX fa fn xf K) : Cb P w K mg base 2 (He.fAd K ("_law_chances", none)) ["_law_cell", "_law_many"] [] (sp_Lchances K) :=
  cb_of (T := t_Lchances K) (c.def_ 10 rfl) sc_Lchances (fun vs H Q E h => by
    obtain ⟨_, _, rfl, _⟩ := h
    rfl) (fun _ _ _ _ _ _ us hl => match us, hl with | [_, _], _ => rfl)
   (fun cdv A outer s H E hr => by
    have nd := sc_Lchances.nd
    have ho := out_def (cxD_takes (P := P) (w := w) (K := K) (mg := mg) (base := base) (N := N_Lchances) (qual := "_law_chances") (st := s_Lchances) (f := He.fAd K ("_law_chances", none)) (cdv := cdv) (A := A) (outer := outer) (s := s) (H := H) (E := E))
    have tk := cxD_takes (P := P) (w := w) (K := K) (mg := mg) (base := base) (N := N_Lchances) (qual := "_law_chances") (st := s_Lchances) (f := He.fAd K ("_law_chances", none)) (cdv := cdv) (A := A) (outer := outer) (s := s) (H := H) (E := E)
    have pz := cxD_passes (P := P) (w := w) (K := K) (mg := mg) (base := base) (N := N_Lchances) (qual := "_law_chances") (st := s_Lchances) (f := He.fAd K ("_law_chances", none)) (cdv := cdv) (A := A) (outer := outer) (s := s) (H := H) (E := E)
    exact pss_one (ps_ret (pe_lc (own := [("_law_k", 2)]) (g := gName 2) (tt := tYes) rfl nd (pi_range1 (by rfl) (He.free_ok KX G (c.fact 11 rfl)) (pa_cons (pv 1) (pa_nil))) (blkOk_by (N := N_Lchances) (sc := defScope s_Lchances) (by decide +kernel)) (fun _ _ _ _ _ => pg_name (i := 2) nd rfl (by first | exact Or.inl rfl | exact Or.inr rfl)) (fun _ _ _ _ _ => pts_nil) (fun _ _ _ _ _ => pe_fun (cb_Lchance KX G c) (hr.mono (by decide)) (He.glo_ok KX G (c.fact 12 rfl)) out_none (pa_cons (pv 0) (pa_cons (pv 2) (pa_nil)))))))
   (fun vs H Q E h => by
    obtain ⟨_, _, rfl, h⟩ := h
    haveI : HasCls K "Mixer" := ⟨He.cls_ok (c.fact 0 rfl)⟩
    haveI : HasNo K "Mixer" "shares" := ⟨He.noat_ok (c.fact 1 rfl)⟩
    exact pure_Lchances K h)
theorem cb_Ldrawn (KX : K.In h) (G : h.Ns mainGlobals mg) (c : SaysX fa fn xf K) : Cb P w K mg base 2 (He.fAd K ("_law_drawn", none)) ["_law_cell", "_law_chances_here", "_law_bit", "_law_last"] [] (sp_Ldrawn K) :=
  cb_of (T := t_Ldrawn K) (c.def_ 12 rfl) sc_Ldrawn (fun vs H Q E h => by
    obtain ⟨_, _, _, _, rfl, _⟩ := h
    rfl) (fun _ _ _ _ _ _ us hl => match us, hl with | [_, _, _, _], _ => rfl)
   (fun cdv A outer s H E hr => by
    have nd := sc_Ldrawn.nd
    have ho := out_def (cxD_takes (P := P) (w := w) (K := K) (mg := mg) (base := base) (N := N_Ldrawn) (qual := "_law_drawn") (st := s_Ldrawn) (f := He.fAd K ("_law_drawn", none)) (cdv := cdv) (A := A) (outer := outer) (s := s) (H := H) (E := E))
    have tk := cxD_takes (P := P) (w := w) (K := K) (mg := mg) (base := base) (N := N_Ldrawn) (qual := "_law_drawn") (st := s_Ldrawn) (f := He.fAd K ("_law_drawn", none)) (cdv := cdv) (A := A) (outer := outer) (s := s) (H := H) (E := E)
    have pz := cxD_passes (P := P) (w := w) (K := K) (mg := mg) (base := base) (N := N_Ldrawn) (qual := "_law_drawn") (st := s_Ldrawn) (f := He.fAd K ("_law_drawn", none)) (cdv := cdv) (A := A) (outer := outer) (s := s) (H := H) (E := E)
    exact pss_cons (ps_set (i := 4) nd rfl (by first | exact Or.inl rfl | exact Or.inr rfl) (pe_op o_rest (pe_op o_floor (pv 0) (pe_int)) (pe_int)))
       (pss_cons (ps_if (pt_cmpR (o_same hr.units) (pv 4) (pe_int) (nomark _)) (pss_cons (ps_set (i := 5) nd rfl (by first | exact Or.inl rfl | exact Or.inr rfl) (pe_int))
       (pss_cons (ps_for pz rfl (pi_range1 (by rfl) (He.free_ok KX G (c.fact 11 rfl)) (pa_cons (pe_callB c_len (by rfl) (He.free_ok KX G (c.fact 13 rfl)) (by decide +kernel) (pa_cons (pv 1) (pa_nil))) (pa_nil))) (pg_name (i := 6) nd rfl (by first | exact Or.inl rfl | exact Or.inr rfl)) (pss_one (ps_if (pt_cmpR o_gt (pe_fun (cb_Lgives KX G c) (hr.mono (by decide)) (He.glo_ok KX G (c.fact 14 rfl)) ho (pa_cons (pe_ix ix_seq (pv 1) (pv 6) (fun _ _ => rfl)) (pa_cons (pv 2) (pa_nil)))) (pe_fun (cb_Lgives KX G c) (hr.mono (by decide)) (He.glo_ok KX G (c.fact 14 rfl)) ho (pa_cons (pe_ix ix_seq (pv 1) (pv 5) (fun _ _ => rfl)) (pa_cons (pv 2) (pa_nil)))) (nomark _)) (pss_one (ps_set (i := 5) nd rfl (by first | exact Or.inl rfl | exact Or.inr rfl) (pv 6))) (pss_nil))))
       (pss_one (ps_ret (pv 5))))) (pss_nil))
       (pss_cons (ps_if (pt_cmpR (o_same hr.units) (pv 4) (pe_int) (nomark _)) (pss_one (ps_ret (pe_op o_rest (pe_op o_floor (pv 0) (pe_int)) (pe_callB c_len (by rfl) (He.free_ok KX G (c.fact 13 rfl)) (by decide +kernel) (pa_cons (pv 1) (pa_nil)))))) (pss_nil))
       (pss_one (ps_ret (pv 3))))))
   (fun vs H Q E h => by
    obtain ⟨_, _, _, _, rfl, h⟩ := h
    haveI : HasCls K "Mixer" := ⟨He.cls_ok (c.fact 0 rfl)⟩
    haveI : HasNo K "Mixer" "shares" := ⟨He.noat_ok (c.fact 1 rfl)⟩
    exact pure_Ldrawn K h)
theorem cb_checked_bit (KX : K.In h) (G : h.Ns mainGlobals mg) (c : SaysX fa fn xf K) : Cb P w K mg base 3 (He.fAd K ("checked_bit", none)) ["thing"] [] (sp_checked_bit K) :=
  cb_of (T := t_checked_bit K) (c.def_ 3 rfl) sc_checked_bit (fun vs H Q E h => by
    obtain ⟨_, rfl, _⟩ := h
    rfl) (fun _ _ _ _ _ _ us hl => match us, hl with | [_], _ => rfl)
   (fun cdv A outer s H E hr => by
    have nd := sc_checked_bit.nd
    have ho := out_def (cxD_takes (P := P) (w := w) (K := K) (mg := mg) (base := base) (N := N_checked_bit) (qual := "checked_bit") (st := s_checked_bit) (f := He.fAd K ("checked_bit", none)) (cdv := cdv) (A := A) (outer := outer) (s := s) (H := H) (E := E))
    have tk := cxD_takes (P := P) (w := w) (K := K) (mg := mg) (base := base) (N := N_checked_bit) (qual := "checked_bit") (st := s_checked_bit) (f := He.fAd K ("checked_bit", none)) (cdv := cdv) (A := A) (outer := outer) (s := s) (H := H) (E := E)
    have pz := cxD_passes (P := P) (w := w) (K := K) (mg := mg) (base := base) (N := N_checked_bit) (qual := "checked_bit") (st := s_checked_bit) (f := He.fAd K ("checked_bit", none)) (cdv := cdv) (A := A) (outer := outer) (s := s) (H := H) (E := E)
    exact pss_cons (ps_if (pt_not (pt_tru (pe_fun (cb_is_bit KX G c) (hr.mono (by decide)) (He.glo_ok KX G (c.fact 15 rfl)) ho (pa_cons (pv 0) (pa_nil))))) (pss_one (ps_rz (exn_ok KX G (c.fact 16 rfl) (c.fact 17 rfl)) rfl tk)) (pss_nil))
       (pss_one (ps_ret (pv 0))))
   (fun vs H Q E h => by
    obtain ⟨_, rfl, h⟩ := h
    haveI : HasCls K "Mixer" := ⟨He.cls_ok (c.fact 0 rfl)⟩
    haveI : HasNo K "Mixer" "shares" := ⟨He.noat_ok (c.fact 1 rfl)⟩
    exact pure_checked_bit K h)
theorem cb_checked_chance (KX : K.In h) (G : h.Ns mainGlobals mg) (c : SaysX fa fn xf K) : Cb P w K mg base 3 (He.fAd K ("checked_chance", none)) ["thing"] [] (sp_checked_chance K) :=
  cb_of (T := t_checked_chance K) (c.def_ 4 rfl) sc_checked_chance (fun vs H Q E h => by
    obtain ⟨_, rfl, _⟩ := h
    rfl) (fun _ _ _ _ _ _ us hl => match us, hl with | [_], _ => rfl)
   (fun cdv A outer s H E hr => by
    have nd := sc_checked_chance.nd
    have ho := out_def (cxD_takes (P := P) (w := w) (K := K) (mg := mg) (base := base) (N := N_checked_chance) (qual := "checked_chance") (st := s_checked_chance) (f := He.fAd K ("checked_chance", none)) (cdv := cdv) (A := A) (outer := outer) (s := s) (H := H) (E := E))
    have tk := cxD_takes (P := P) (w := w) (K := K) (mg := mg) (base := base) (N := N_checked_chance) (qual := "checked_chance") (st := s_checked_chance) (f := He.fAd K ("checked_chance", none)) (cdv := cdv) (A := A) (outer := outer) (s := s) (H := H) (E := E)
    have pz := cxD_passes (P := P) (w := w) (K := K) (mg := mg) (base := base) (N := N_checked_chance) (qual := "checked_chance") (st := s_checked_chance) (f := He.fAd K ("checked_chance", none)) (cdv := cdv) (A := A) (outer := outer) (s := s) (H := H) (E := E)
    exact pss_cons (ps_if (pt_not (pt_tru (pe_fun (cb_is_chance KX G c) (hr.mono (by decide)) (He.glo_ok KX G (c.fact 18 rfl)) ho (pa_cons (pv 0) (pa_nil))))) (pss_one (ps_rz (exn_ok KX G (c.fact 19 rfl) (c.fact 20 rfl)) rfl tk)) (pss_nil))
       (pss_one (ps_ret (pv 0))))
   (fun vs H Q E h => by
    obtain ⟨_, rfl, h⟩ := h
    haveI : HasCls K "Mixer" := ⟨He.cls_ok (c.fact 0 rfl)⟩
    haveI : HasNo K "Mixer" "shares" := ⟨He.noat_ok (c.fact 1 rfl)⟩
    exact pure_checked_chance K h)
theorem cb_gives (KX : K.In h) (G : h.Ns mainGlobals mg) (c : SaysX fa fn xf K) : Cb P w K mg base 4 (He.fAd K ("gives", none)) ["chance", "bit"] [] (sp_gives K) :=
  cb_of (T := t_gives K) (c.def_ 5 rfl) sc_gives (fun vs H Q E h => by
    obtain ⟨_, _, rfl, _⟩ := h
    rfl) (fun _ _ _ _ _ _ us hl => match us, hl with | [_, _], _ => rfl)
   (fun cdv A outer s H E hr => by
    have nd := sc_gives.nd
    have ho := out_def (cxD_takes (P := P) (w := w) (K := K) (mg := mg) (base := base) (N := N_gives) (qual := "gives") (st := s_gives) (f := He.fAd K ("gives", none)) (cdv := cdv) (A := A) (outer := outer) (s := s) (H := H) (E := E))
    have tk := cxD_takes (P := P) (w := w) (K := K) (mg := mg) (base := base) (N := N_gives) (qual := "gives") (st := s_gives) (f := He.fAd K ("gives", none)) (cdv := cdv) (A := A) (outer := outer) (s := s) (H := H) (E := E)
    have pz := cxD_passes (P := P) (w := w) (K := K) (mg := mg) (base := base) (N := N_gives) (qual := "gives") (st := s_gives) (f := He.fAd K ("gives", none)) (cdv := cdv) (A := A) (outer := outer) (s := s) (H := H) (E := E)
    exact pss_cons (ps_set (i := 2) nd rfl (by first | exact Or.inl rfl | exact Or.inr rfl) (pe_fun (cb_checked_chance KX G c) (hr.mono (by decide)) (He.glo_ok KX G (c.fact 21 rfl)) ho (pa_cons (pv 0) (pa_nil))))
       (pss_cons (ps_if (pt_cmpR (o_same hr.units) (pe_fun (cb_checked_bit KX G c) (hr.mono (by decide)) (He.glo_ok KX G (c.fact 22 rfl)) ho (pa_cons (pv 1) (pa_nil))) (pe_int) (nomark _)) (pss_one (ps_ret (pv 2))) (pss_nil))
       (pss_one (ps_ret (pe_op o_minus (pe_gint (He.int_ok KX G (c.fact 10 rfl))) (pv 2))))))
   (fun vs H Q E h => by
    obtain ⟨_, _, rfl, h⟩ := h
    haveI : HasCls K "Mixer" := ⟨He.cls_ok (c.fact 0 rfl)⟩
    haveI : HasNo K "Mixer" "shares" := ⟨He.noat_ok (c.fact 1 rfl)⟩
    exact pure_gives K h)
theorem cb_Mixer_learn (KX : K.In h) (G : h.Ns mainGlobals mg) (c : SaysX fa fn xf K) : Cb P w K mg base 5 (He.fAd K ("Mixer", some "learn")) ["self", "chances", "bit"] [] (sp_Mixer_learn K) :=
  cb_of (T := t_Mixer_learn K) (c.def_ 8 rfl) sc_Mixer_learn (fun vs H Q E h => by
    obtain ⟨_, _, _, rfl, _⟩ := h
    rfl) (fun _ _ _ _ _ _ us hl => match us, hl with | [_, _, _], _ => rfl)
   (fun cdv A outer s H E hr => by
    have nd := sc_Mixer_learn.nd
    have ho := out_def (cxD_takes (P := P) (w := w) (K := K) (mg := mg) (base := base) (N := N_Mixer_learn) (qual := "Mixer.learn") (st := s_Mixer_learn) (f := He.fAd K ("Mixer", some "learn")) (cdv := cdv) (A := A) (outer := outer) (s := s) (H := H) (E := E))
    have tk := cxD_takes (P := P) (w := w) (K := K) (mg := mg) (base := base) (N := N_Mixer_learn) (qual := "Mixer.learn") (st := s_Mixer_learn) (f := He.fAd K ("Mixer", some "learn")) (cdv := cdv) (A := A) (outer := outer) (s := s) (H := H) (E := E)
    have pz := cxD_passes (P := P) (w := w) (K := K) (mg := mg) (base := base) (N := N_Mixer_learn) (qual := "Mixer.learn") (st := s_Mixer_learn) (f := He.fAd K ("Mixer", some "learn")) (cdv := cdv) (A := A) (outer := outer) (s := s) (H := H) (E := E)
    exact pss_cons (ps_set (i := 3) nd rfl (by first | exact Or.inl rfl | exact Or.inr rfl) (pe_fun (cb_checked_bit KX G c) (hr.mono (by decide)) (He.glo_ok KX G (c.fact 22 rfl)) ho (pa_cons (pv 2) (pa_nil))))
       (pss_cons (ps_setLc (i := 4) (own := [("weight", 9), ("chance", 10)]) (g := gTup K 2 (gCons (gName 9) (gCons (gName 10) (gNil)))) (tt := tYes) rfl nd rfl rfl (sw_true rfl rfl rfl (by decide +kernel)) (pi_zip (by rfl) (He.free_ok KX G (c.fact 6 rfl)) (pa_cons (pe_fld (pv 0) rfl) (pa_cons (pv 1) (pa_nil)))) (blkOk_by (N := N_Mixer_learn) (sc := defScope s_Mixer_learn) (by decide +kernel)) (fun _ _ _ _ _ => pg_tup rfl (pgs_cons (pg_name (i := 9) nd rfl (by first | exact Or.inl rfl | exact Or.inr rfl)) (pgs_cons (pg_name (i := 10) nd rfl (by first | exact Or.inl rfl | exact Or.inr rfl)) (pgs_nil)))) (fun _ _ _ _ _ => pts_nil) (fun _ _ _ _ _ => pe_op o_times (pv 9) (pe_fun (cb_gives KX G c) (hr.mono (by decide)) (He.glo_ok KX G (c.fact 24 rfl)) out_none (pa_cons (pv 10) (pa_cons (pv 3) (pa_nil))))))
       (pss_cons (ps_set (i := 5) nd rfl (by first | exact Or.inl rfl | exact Or.inr rfl) (pe_callB (c_sum rfl) (by rfl) (He.free_ok KX G (c.fact 7 rfl)) (by decide +kernel) (pa_cons (pv 4) (pa_nil))))
       (pss_cons (ps_set (i := 6) nd rfl (by first | exact Or.inl rfl | exact Or.inr rfl) (pe_callB c_len (by rfl) (He.free_ok KX G (c.fact 13 rfl)) (by decide +kernel) (pa_cons (pv 4) (pa_nil))))
       (pss_cons (ps_setLc (i := 7) (own := [("part", 11)]) (g := gName 11) (tt := tYes) rfl nd rfl rfl (sw_true rfl rfl rfl (by decide +kernel)) (pi_list (pv 4)) (blkOk_by (N := N_Mixer_learn) (sc := defScope s_Mixer_learn) (by decide +kernel)) (fun _ _ _ _ _ => pg_name (i := 11) nd rfl (by first | exact Or.inl rfl | exact Or.inr rfl)) (fun _ _ _ _ _ => pts_nil) (fun _ _ _ _ _ => pe_op o_plus (pe_op o_times (pe_op o_times (pe_gint (He.int_ok KX G (c.fact 25 rfl))) (pv 6)) (pv 11)) (pv 5)))
       (pss_cons (ps_set (i := 8) nd rfl (by first | exact Or.inl rfl | exact Or.inr rfl) (pe_callB (c_max rfl) (by rfl) (He.free_ok KX G (c.fact 23 rfl)) (by decide +kernel) (pa_cons (pe_int) (pa_cons (pe_op o_minus (pe_bits (pe_callB (c_sum rfl) (by rfl) (He.free_ok KX G (c.fact 7 rfl)) (by decide +kernel) (pa_cons (pv 7) (pa_nil)))) (pe_gint (He.int_ok KX G (c.fact 26 rfl)))) (pa_nil)))))
       (pss_one (ps_fld (pv 0) (pe_lc (own := [("one", 12)]) (g := gName 12) (tt := tYes) rfl nd (pi_list (pv 7)) (blkOk_by (N := N_Mixer_learn) (sc := defScope s_Mixer_learn) (by decide +kernel)) (fun _ _ _ _ _ => pg_name (i := 12) nd rfl (by first | exact Or.inl rfl | exact Or.inr rfl)) (fun _ _ _ _ _ => pts_nil) (fun _ _ _ _ _ => pe_op o_rsh (pv 12) (pv 8))) rfl))))))))
   (fun vs H Q E h => by
    obtain ⟨_, _, _, rfl, h⟩ := h
    haveI : HasCls K "Mixer" := ⟨He.cls_ok (c.fact 0 rfl)⟩
    haveI : HasNo K "Mixer" "shares" := ⟨He.noat_ok (c.fact 1 rfl)⟩
    exact pure_Mixer_learn K h)
theorem ok_law (KX : K.In h) (G : h.Ns mainGlobals mg) (c : SaysX fa fn xf K) {fd : FuncData} (F : FunD K "law" "law" (defArgs s_law) (defBody s_law) (defScope s_law) [] [] (He.fAd K ("law", none)) fd) : FnOk P w K mg base (L2.CX P w) 6 (He.fAd K ("law", none)) fd ["_law_script"] (sp_law K) :=
  ok_of (T := t_law K) F sc_law (fun vs H Q E h => by
    obtain ⟨_, rfl, _⟩ := h
    rfl)
   (fun cdv A outer s H E hr => by
    have nd := sc_law.nd
    have ho := out_def (cxD_takes (P := P) (w := w) (K := K) (mg := mg) (base := base) (N := N_law) (qual := "law") (st := s_law) (f := He.fAd K ("law", none)) (cdv := cdv) (A := A) (outer := outer) (s := s) (H := H) (E := E))
    have tk := cxD_takes (P := P) (w := w) (K := K) (mg := mg) (base := base) (N := N_law) (qual := "law") (st := s_law) (f := He.fAd K ("law", none)) (cdv := cdv) (A := A) (outer := outer) (s := s) (H := H) (E := E)
    have pz := cxD_passes (P := P) (w := w) (K := K) (mg := mg) (base := base) (N := N_law) (qual := "law") (st := s_law) (f := He.fAd K ("law", none)) (cdv := cdv) (A := A) (outer := outer) (s := s) (H := H) (E := E)
    exact pss_cons (ps_setLc (i := 1) (own := [("_law_cell", 15)]) (g := gName 15) (tt := tYes) rfl nd rfl rfl (sw_true rfl rfl rfl (by decide +kernel)) (pi_list (pe_slice sl_list (pv 0) (po_none) (po_some (pe_int)))) (blkOk_by (N := N_law) (sc := defScope s_law) (by decide +kernel)) (fun _ _ _ _ _ => pg_name (i := 15) nd rfl (by first | exact Or.inl rfl | exact Or.inr rfl)) (fun _ _ _ _ _ => pts_nil) (fun _ _ _ _ _ => pe_op o_rest (pv 15) (pe_op o_pow (pe_int) (pe_int))))
       (pss_cons (ps_set (i := 2) nd rfl (by first | exact Or.inl rfl | exact Or.inr rfl) (pe_op o_plus (pe_int) (pe_op o_rest (pe_callB (c_sum rfl) (by rfl) (He.free_ok KX G (c.fact 7 rfl)) (by decide +kernel) (pa_cons (pe_slice sl_list (pv 1) (po_none) (po_some (pe_int))) (pa_nil))) (pe_int))))
       (pss_cons (ps_set (i := 3) nd rfl (by first | exact Or.inl rfl | exact Or.inr rfl) (pe_op o_rest (pe_op o_floor (pe_callB (c_sum rfl) (by rfl) (He.free_ok KX G (c.fact 7 rfl)) (by decide +kernel) (pa_cons (pe_slice sl_list (pv 1) (po_none) (po_some (pe_int))) (pa_nil))) (pe_int)) (pe_op o_plus (pe_callB c_len (by rfl) (He.free_ok KX G (c.fact 13 rfl)) (by decide +kernel) (pa_cons (pv 1) (pa_nil))) (pe_int))))
       (pss_cons (ps_if (pt_cmpR (o_same hr.units) (pe_op o_rest (pe_callB (c_sum rfl) (by rfl) (He.free_ok KX G (c.fact 7 rfl)) (by decide +kernel) (pa_cons (pe_slice sl_list (pv 1) (po_some (pe_int)) (po_some (pe_int))) (pa_nil))) (pe_int)) (pe_int) (nomark _)) (pss_one (ps_set (i := 3) nd rfl (by first | exact Or.inl rfl | exact Or.inr rfl) (pe_int))) (pss_nil))
       (pss_cons (ps_set (i := 4) nd rfl (by first | exact Or.inl rfl | exact Or.inr rfl) (pe_cmpR (o_same hr.units) (pe_op o_rest (pe_op o_floor (pe_callB (c_sum rfl) (by rfl) (He.free_ok KX G (c.fact 7 rfl)) (by decide +kernel) (pa_cons (pe_slice sl_list (pv 1) (po_some (pe_int)) (po_some (pe_int))) (pa_nil))) (pe_int)) (pe_int)) (pe_int) (nomark _)))
       (pss_cons (ps_set (i := 5) nd rfl (by first | exact Or.inl rfl | exact Or.inr rfl) (pe_op o_plus (pe_int) (pe_op o_rest (pe_op o_floor (pe_callB (c_sum rfl) (by rfl) (He.free_ok KX G (c.fact 7 rfl)) (by decide +kernel) (pa_cons (pe_slice sl_list (pv 1) (po_some (pe_int)) (po_some (pe_int))) (pa_nil))) (pe_int)) (pe_int))))
       (pss_cons (ps_set (i := 6) nd rfl (by first | exact Or.inl rfl | exact Or.inr rfl) (pe_new (He.mkr_ok (c.fact 33 rfl)) (cb_Mixer_init KX G c) (hr.mono (by decide)) (He.glo_ok KX G (c.fact 28 rfl)) ho (pa_cons (pv 2) (pa_nil))))
       (pss_cons (ps_set (i := 7) nd rfl (by first | exact Or.inl rfl | exact Or.inr rfl) (pe_int))
       (pss_cons (ps_set (i := 8) nd rfl (by first | exact Or.inl rfl | exact Or.inr rfl) (pe_int))
       (pss_cons (ps_set (i := 9) nd rfl (by first | exact Or.inl rfl | exact Or.inr rfl) (pe_op o_rest (pe_op o_floor (pe_callB (c_sum rfl) (by rfl) (He.free_ok KX G (c.fact 7 rfl)) (by decide +kernel) (pa_cons (pe_slice sl_list (pv 1) (po_none) (po_some (pe_int))) (pa_nil))) (pe_int)) (pv 2)))
       (pss_cons (ps_for pz rfl (pi_range1 (by rfl) (He.free_ok KX G (c.fact 11 rfl)) (pa_cons (pe_callB c_len (by rfl) (He.free_ok KX G (c.fact 13 rfl)) (by decide +kernel) (pa_cons (pv 1) (pa_nil))) (pa_nil))) (pg_name (i := 10) nd rfl (by first | exact Or.inl rfl | exact Or.inr rfl)) (pss_cons (ps_set (i := 11) nd rfl (by first | exact Or.inl rfl | exact Or.inr rfl) (pe_fun (cb_Lchances KX G c) (hr.mono (by decide)) (He.glo_ok KX G (c.fact 29 rfl)) ho (pa_cons (pe_op o_floor (pe_ix ix_seq (pv 1) (pv 10) (fun _ _ => rfl)) (pe_int)) (pa_cons (pv 2) (pa_nil)))))
       (pss_cons (ps_set (i := 12) nd rfl (by first | exact Or.inl rfl | exact Or.inr rfl) (pe_op o_rest (pe_op o_floor (pe_ix ix_seq (pv 1) (pv 10) (fun _ _ => rfl)) (pe_int)) (pe_int)))
       (pss_cons (ps_set (i := 13) nd rfl (by first | exact Or.inl rfl | exact Or.inr rfl) (pe_fun (cb_Ldrawn KX G c) (hr.mono (by decide)) (He.glo_ok KX G (c.fact 30 rfl)) ho (pa_cons (pe_ix ix_seq (pv 1) (pv 10) (fun _ _ => rfl)) (pa_cons (pv 11) (pa_cons (pv 12) (pa_cons (pv 9) (pa_nil)))))))
       (pss_cons (ps_if (pt_tru (pv 4)) (pss_cons (ps_set (i := 13) nd rfl (by first | exact Or.inl rfl | exact Or.inr rfl) (pe_op o_rest (pe_op o_floor (pv 10) (pv 5)) (pv 2)))
       (pss_one (ps_asg (pe_ix ix_seq (pe_lst (pa_cons (pe_op o_lsh (pe_int) (pe_int)) (pa_cons (pe_op o_minus (pe_op o_lsh (pe_int) (pe_int)) (pe_op o_lsh (pe_int) (pe_int))) (pa_nil)))) (pv 12) (fun _ _ => rfl)) (pg_sub (pv 11) (pv 13) set_list)))) (pss_nil))
       (pss_cons (ps_set (i := 14) nd rfl (by first | exact Or.inl rfl | exact Or.inr rfl) (pe_mth (k := 5) (pv 6) (mo_one (He.cls_ok (c.fact 0 rfl)) (He.meth_ok (c.fact 31 rfl)) (cb_Mixer_mixed KX G c) (by decide)) hr ho (pa_cons (pe_callTy c_list (by rfl) (He.free_ok KX G (c.fact 27 rfl)) (by decide +kernel) (pa_cons (pv 11) (pa_nil))) (pa_nil))))
       (pss_cons (ps_if (PW.pt (pw_or (pt_not (pt_tru (pe_callB c_isi (by rfl) (He.free_ok KX G (c.fact 2 rfl)) (by decide +kernel) (pa_cons (pv 14) (pa_cons (pe_gty (He.free_ok KX G (c.fact 3 rfl)) (by decide +kernel)) (pa_nil)))))) (pw_or1 (pt_not (pt_chain o_lt o_lt (pe_int) (pv 14) (pe_op o_lsh (pe_int) (pe_int))))))) (pss_one (ps_ret (pe_bl))) (pss_nil))
       (pss_cons (ps_if (pt_cmpR o_ge (pv 10) (pv 3) (nomark _)) (pss_cons (ps_set (i := 7) nd rfl (by first | exact Or.inl rfl | exact Or.inr rfl) (pe_op o_times (pv 7) (pe_fun (cb_Lgives KX G c) (hr.mono (by decide)) (He.glo_ok KX G (c.fact 14 rfl)) ho (pa_cons (pe_ix ix_seq (pv 11) (pv 13) (fun _ _ => rfl)) (pa_cons (pv 12) (pa_nil))))))
       (pss_cons (ps_set (i := 8) nd rfl (by first | exact Or.inl rfl | exact Or.inr rfl) (pe_op o_times (pe_op o_times (pe_op o_times (pv 8) (pe_fun (cb_Lgives KX G c) (hr.mono (by decide)) (He.glo_ok KX G (c.fact 14 rfl)) ho (pa_cons (pv 14) (pa_cons (pv 12) (pa_nil))))) (pe_int)) (pv 2)))
       (pss_cons (ps_if (PW.pt (pw_and (pt_cmpR o_gt (pv 10) (pv 3) (nomark _)) (pw_and1 (pt_cmpR (o_same hr.units) (pv 13) (pv 9) (nomark _))))) (pss_one (ps_set (i := 7) nd rfl (by first | exact Or.inl rfl | exact Or.inr rfl) (pe_op o_times (pv 7) (pe_op o_plus (pe_op o_times (pe_int) (pv 2)) (pe_int))))) (pss_nil))
       (pss_one (ps_if (pt_cmpR o_gt (pv 7) (pv 8) (nomark _)) (pss_one (ps_ret (pe_bl))) (pss_nil)))))) (pss_nil))
       (pss_cons (ps_set (i := 9) nd rfl (by first | exact Or.inl rfl | exact Or.inr rfl) (pv 13))
       (pss_one (ps_expr (pe_mth (k := 5) (pv 6) (mo_one (He.cls_ok (c.fact 0 rfl)) (He.meth_ok (c.fact 32 rfl)) (cb_Mixer_learn KX G c) (by decide)) hr ho (pa_cons (pe_callTy c_list (by rfl) (He.free_ok KX G (c.fact 27 rfl)) (by decide +kernel) (pa_cons (pv 11) (pa_nil))) (pa_cons (pv 12) (pa_nil)))))))))))))))
       (pss_one (ps_ret (pe_bl))))))))))))))
   (fun vs H Q E h => by
    obtain ⟨_, rfl, h⟩ := h
    haveI : HasCls K "Mixer" := ⟨He.cls_ok (c.fact 0 rfl)⟩
    haveI : HasNo K "Mixer" "shares" := ⟨He.noat_ok (c.fact 1 rfl)⟩
    exact pure_law K h)
end
theorem facts {P : Program} {w : World} {K : PySem.W.Frag} {h : Heap} {mg : Str → Option Value} {f : Addr} (X : K.In h) (G : h.Ns mainGlobals mg) (hfa : mg ("law" : Str) = some (.ref f)) (c : SaysX fa fn xf K) :
    ∃ fd : FuncData, (∀ (s : Shared) (v : Value), BindsTo s fd ⟨[v], []⟩ [("_law_script", v)]) ∧ ∀ base : Heap, K.In base → base.Ns mainGlobals mg → FnOk P w K mg base (L2.CX P w) 6 f fd ["_law_script"] (sp_law K) := by
  obtain ⟨fd, F⟩ := c.def_ 13 rfl
  have e := hfa.symm.trans (He.glo_ok X G (c.fact 34 rfl))
  cases e
  have b := FunD.bindsA (ps := ["_law_script"]) F fun _ _ _ _ _ _ us hl => match us, hl with | [_], _ => rfl
  exact ⟨fd, fun s v => b s [v] rfl, fun base _ _ => ok_law (P := P) (w := w) (base := base) X G c F⟩
theorem cx_end {P : Program} {w : World} (H : Hp) (s : Shared) (e : Value) (s' : Shared) (z : L2.CX P w [] H s (fun _ _ _ => False) e s') : False := by
  obtain ⟨_, _, _, _, _, _, _, _, _, _, _, _, z⟩ := z
  exact z
end Fo
open PySem PySem.W PySem.Calls PyProof.Rows
theorem PySem.Challenge.cw_foretell_k22_whole_no_worse_holds : PySem.Challenge.rw_foretell_k22_whole_no_worse.Holds := by
  w_on; o_law
  refine HandSHeadRun.head_any (r := Fo.W_.row) (q := view Fo.W_.row.prog [23]) (H := Fo.hk) (ob := Fo.ob) (M := 4060) (loose := Fo.loose) (d := HandSHeadRun.topDef Fo.W_.row.prog 23) (kwd := []) Fo.ob_eq
    (by kernel_rfl) (fun s => by kernel_rfl) Fo.run (by kernel_rfl) (by kernel_rfl) (by kernel_rfl) (by rfl) (by first | assumption | decide +kernel) (by decide +kernel) ⟨rfl, rfl, rfl, rfl, rfl, by decide +kernel⟩ ?hw ?hc
  case hw => w_witness2
  case hc =>
    refine L2.walk_ofE (l := Fo.W_) (n := 63) (k := 6) (x := "_law_script") (CX := fun o H s E u s' => ∃ (P : Program) (w : World), L2.CX P w o H s E u s') rfl (by decide) (by kernel_rfl) ⟨rfl, by decide, by decide⟩ ?F (fun H s e s' z => by obtain ⟨P, w, z⟩ := z; exact Fo.cx_end H s e s' z)
    intro w mg fa h Y G hmg0
    obtain ⟨K, KX, c⟩ := Y
    have hmg : mg ("law" : PySem.Str) = some (.ref fa) := by
      have e : (HandSHeadRun.topDef Fo.W_.row.prog 23).name = ("law" : PySem.Str) := by kernel_rfl
      rw [← e]
      exact hmg0
    obtain ⟨fd, hb, hF⟩ := Fo.facts (P := Fo.W_.prog) (w := w) KX G hmg c
    exact ⟨K, fd, Fo.sp_law K, KX, hb, fun H a ns hl _ hS => Fo.law_here K H a ns hl hS, fun base hB hG => Fo.cx_any (hF base hB hG)⟩


