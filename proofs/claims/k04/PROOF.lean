import PyProof.Rows.All
import PySem.Challenge.RW_foretell_k04_span_refused
import Wide.All
import OpenK.AllK
import Wide.FinOn
import KE.KStateDown
import HandS.ForSpec
import HandS.Comp
import HandS.Conv
import HandS.Iter
import HandS.Zip
import HandS.Text
import HandS.More
import HandS.Dict
import HandS.Wide
import HandS.WideBits
import HandS.Flow
import HandS.IsInst
import HandS.Steps
import HandS.Defaults
import HandS.CallSlots
import HandS.CallRecv
import HandS.TryOnly
import HandS.TryElse
import HandS.ExcIs
import HandS.ExcOwn
import HandS.WordsExc
import HandS.Head0
import HandS.Head1
import HandS.Head2
import HandS.HeadEnd
import HandS.HeadHook1
import HandS.HeadHook2
set_option Elab.async false
set_option linter.all false
set_option maxRecDepth 100000
set_option maxHeartbeats 4000000
namespace Fo
open PySem PySem.Spec PyProof.Rows L2
/-! Fo: one reading for each operator, whatever the kinds of its operands; steps of readings; calls by bundles. -/
abbrev St := L2.St
abbrev Ends := L2.Ends
theorem orOp {X : Cx} {f : Value → Value → Sem Value} {r r' : R2} (h : OpR X f r) (h' : OpR X f r') : OpR X f (fun x y H Q => r x y H Q ∨ r' x y H Q) := by
  intro pins s σ H x y v u Q I rx ry q
  rcases q with q | q
  · exact h pins s σ H x y v u Q I rx ry q
  · exact h' pins s σ H x y v u Q I rx ry q
theorem orCall {X : Cx} {f : Value} {r r' : List V → Hp → VK → Prop} (h : CallR X f r) (h' : CallR X f r') : CallR X f (fun xs H Q => r xs H Q ∨ r' xs H Q) := by
  intro pins s σ H xs us Q I rs q
  rcases q with q | q
  · exact h pins s σ H xs us Q I rs q
  · exact h' pins s σ H xs us Q I rs q
/-! ### operators -/
def iAdd : R2 := rI0 fun i j => .int (i + j)
def sAdd : R2 := fun x y H Q => ∃ i j, x = .str i ∧ y = .str j ∧ i.length + j.length ≤ sizeLine ∧ Q (.str (i ++ j)) H
def rPlus (K : PySem.W.Frag) : R2 := fun x y H Q => iAdd x y H Q ∨ (rCat x y H Q ∨ (sAdd x y H Q ∨ rCatT K x y H Q))
def rMinus : R2 := rI0 fun i j => .int (i - j)
def iMul : R2 := rI IntMulOk fun i j => .int (i * j)
def rTimes : R2 := fun x y H Q => iMul x y H Q ∨ rRep x y H Q
def rFloor : R2 := rI CDivW fun i j => .int (i / j)
def rRest : R2 := rI (fun _ j => 0 < j) fun i j => .int (i % j)
def rPow : R2 := rI CPow fun i j => .int (i ^ j.toNat)
def rLsh : R2 := rI CShl fun i j => .int (i * 2 ^ j.toNat)
def rRsh : R2 := rI (fun _ j => 0 ≤ j) fun i j => .int (i / 2 ^ j.toNat)
def rMask : R2 := fun x y H Q => ∃ (i : Int) (k : Nat), x = .int i ∧ y = .int (2 ^ k - 1) ∧ Q (.int (i % 2 ^ k)) H
def rNeg : V → Hp → VK → Prop := rU fun i => .int (-i)
def iLt : R2 := rI0 fun i j => .bl (decide (i < j))
def iLe : R2 := rI0 fun i j => .bl (decide (i ≤ j))
def iGt : R2 := rI0 fun i j => .bl (decide (j < i))
def iGe : R2 := rI0 fun i j => .bl (decide (j ≤ i))
def sLe : R2 := fun x y H Q => ∃ i j, x = .str i ∧ y = .str j ∧ Q (.bl (!decide (j.cps.toList < i.cps.toList))) H
def rLe : R2 := fun x y H Q => iLe x y H Q ∨ sLe x y H Q
def rSame (K : PySem.W.Frag) : R2 := fun x y H Q => rEq x y H Q ∨ rEqD K x y H Q
def rDiff (K : PySem.W.Frag) : R2 := fun x y H Q => rNe x y H Q ∨ rNeD K x y H Q
def rIsNo : R2 := fun x y H Q => y = .non ∧ Q (.bl (decide (x = .non))) H
def rNotNo : R2 := fun x y H Q => y = .non ∧ Q (.bl (!decide (x = .non))) H
def rAmong (K : PySem.W.Frag) : R2 := fun x y H Q => rIn K false x y H Q ∨ rInS x y H Q
def rNotAmong (K : PySem.W.Frag) : R2 := fun x y H Q => rIn K true x y H Q ∨ rNotInS x y H Q
section
variable {X : Cx}
theorem o_plus : OpR X (binaryOp .Add) (rPlus X.K) := orOp op_add (orOp op_cat (orOp op_add_str op_catT))
theorem o_minus : OpR X (binaryOp .Sub) rMinus := op_sub
theorem o_imul : OpR X (binaryOp .Mult) iMul := opI fun _ _ _ _ _ _ _ hc q => mul_int q hc
theorem o_times : OpR X (binaryOp .Mult) rTimes := orOp o_imul op_rep
theorem o_floor : OpR X (binaryOp .FloorDiv) rFloor := op_fdivW
theorem o_rest : OpR X (binaryOp .Mod) rRest := op_mod
theorem o_pow : OpR X (binaryOp .Pow) rPow := op_pow
theorem o_lsh : OpR X (binaryOp .LShift) rLsh := op_shlW
theorem o_rsh : OpR X (binaryOp .RShift) rRsh := op_shr
theorem o_mask : OpR X (binaryOp .BitAnd) rMask := op_andM
theorem o_neg : UnR X (unaryOp .USub) rNeg := un_neg
theorem o_lt : OpR X (compareOp .Lt) iLt := op_lt
theorem o_le : OpR X (compareOp .LtE) rLe := orOp op_le op_le_str
theorem o_gt : OpR X (compareOp .Gt) iGt := op_gt
theorem o_ge : OpR X (compareOp .GtE) iGe := op_ge
theorem o_same (hu : X.A.units + 64 < cLine) : OpR X (compareOp .Eq) (rSame X.K) := orOp op_eq (op_eqD hu)
theorem o_diff (hu : X.A.units + 64 < cLine) : OpR X (compareOp .NotEq) (rDiff X.K) := orOp op_ne (op_neD hu)
theorem o_isno : OpR X (compareOp .Is) rIsNo := op_isN
theorem o_notno : OpR X (compareOp .IsNot) rNotNo := op_notN
theorem o_among : OpR X (compareOp .In) (rAmong X.K) := orOp op_in_seq op_inS
theorem o_notamong : OpR X (compareOp .NotIn) (rNotAmong X.K) := orOp op_notIn_seq op_notInS
end
/-! ### built-ins -/
def rLength (K : PySem.W.Frag) : List V → Hp → VK → Prop := fun xs H Q => ∃ x n, xs = [x] ∧ LenV K x H n ∧ Q (.int n) H
def rListOf (K : PySem.W.Frag) : List V → Hp → VK → Prop := fun xs H Q => ∃ p ys, xs = [.ref p] ∧ (SqL K H p ys ∨ SqT K H p ys) ∧ ∀ l, H l = none → Q (.ref l) (upd H l (.lst ys))
def rTupleOf (K : PySem.W.Frag) : List V → Hp → VK → Prop := fun xs H Q => ∃ p ys, xs = [.ref p] ∧ ((SqL K H p ys ∧ ∀ l, H l = none → Q (.ref l) (upd H l (.tup ys))) ∨ (SqT K H p ys ∧ Q (.ref p) H))
def rMax2 : List V → Hp → VK → Prop := fun xs H Q => ∃ i j, xs = [.int i, .int j] ∧ Q (.int (if j > i then j else i)) H
def rMin2 : List V → Hp → VK → Prop := fun xs H Q => ∃ i j, xs = [.int i, .int j] ∧ Q (.int (if j < i then j else i)) H
def rGreatest (K : PySem.W.Frag) : List V → Hp → VK → Prop := fun xs H Q => rMax2 xs H Q ∨ L2.rMax K xs H Q
def rLeast (K : PySem.W.Frag) : List V → Hp → VK → Prop := fun xs H Q => rMin2 xs H Q ∨ L2.rMin K xs H Q
def rInt1 : List V → Hp → VK → Prop := fun xs H Q => (∃ i, xs = [.int i] ∧ Q (.int i) H) ∨ ∃ k, xs = [.bl k] ∧ Q (.int (if k then 1 else 0)) H
def rIsi2 (K : PySem.W.Frag) : List V → Hp → VK → Prop := fun xs H Q => rIsi K xs H Q ∨ rIsiT K xs H Q
section
variable {X : Cx}
theorem c_len : CallR X (.builtin "len") (rLength X.K) := call_len
theorem c_list : CallR X (.type "list") (rListOf X.K) := call_list_of
theorem c_tuple : CallR X (.type "tuple") (rTupleOf X.K) := call_tuple_of
theorem c_max (hc : X.calm = true) : CallR X (.builtin "max") (rGreatest X.K) := orCall (call_max2 hc) (cr_max hc)
theorem c_min (hc : X.calm = true) : CallR X (.builtin "min") (rLeast X.K) := orCall (call_min2 hc) (cr_min hc)
theorem c_int : CallR X (.type "int") rInt1 := call_int1
theorem c_isi : CallR X (.builtin "isinstance") (rIsi2 X.K) := orCall call_isi call_isiT
theorem c_all (hc : X.calm = true) : CallR X (.builtin "all") (rAll X.K) := cr_all hc
theorem c_any (hc : X.calm = true) : CallR X (.builtin "any") (rAny X.K) := cr_any hc
theorem c_sum (hc : X.calm = true) : CallR X (.builtin "sum") (rSum X.K) := cr_sum hc
end
/-! ### truth of a value -/
theorem pt_tru {X : Cx} {a : Expr} {ta : TE} (ha : PE X a ta) (he : ∀ whole, isTrue a X.env whole = (do let v ← whole; standAt a.pos; holding [v] (truthy v)) := by intro _; rfl) : PT X a (tTru X.K ta) := pt_truth ha he
/-! Fo, calls: a def, a method, a class, each by a bundle of what its call needs; what is raised is wished for at the slots where the call stands. -/
/-- what is raised reaches those around, whatever the slots -/
def Out (X : Cx) (E : St → XK) : Prop := ∀ σ, PassesAt (L2.CX X.prog X.w) X σ (E σ)
theorem out_try {X : Cx} {W : WX} (tk : Takes X W) : Out X (WE W) := fun σ => passAt tk σ
theorem out_def {X : Cx} {E : XK} (tk : Takes X (fun cls d _ H => E cls d H)) : Out X (fun _ => E) := fun σ => passAt tk σ
/-- nothing is let out (a comprehension's block) -/
theorem out_none {X : Cx} : Out X (fun _ => E0) := fun _ _ _ _ _ _ _ h => by
  obtain ⟨_, _, _, _, _, _, _, _, _, _, _, _, z⟩ := h
  exact z.elim
/-- a def as it may be called: level, address, parameters, the defaults that fill up, promise -/
structure Cb (P : Program) (w : World) (K : PySem.W.Frag) (mg : Str → Option Value) (base : Heap) (k : Nat) (f : Addr) (ps : List Str) (dvs : List V) (sp : Sp) : Prop where
  ex : ∃ (fd : FuncData) (ds : List Value), FnOk P w K mg base (L2.CX P w) k f fd ps sp ∧ Binds K fd ps ds ∧ Vals dvs ds
  kp : PySem.W.keepIn K (.ref f) = true
abbrev CbX (X : Cx) (k : Nat) (f : Addr) (ps : List Str) (dvs : List V) (sp : Sp) : Prop := Cb X.prog X.w X.K X.mg X.base k f ps dvs sp
section
variable {X : Cx} {k : Nat} {f C : Addr} {ps : List Str} {sp : Sp} {dvs : List V} {E : St → XK} {x m : Str} {p pos apos : Pos} {e o : Expr} {es : List Expr} {ta : TE} {t : TA}
abbrev tFun : Sp → List V → (St → XK) → TA → TE := tCallSD
theorem pe_fun (B : CbX X k f ps dvs sp) (hr : Room k X.A) (hm : X.mg x = some (.ref f)) (hx : Out X E) (ha : PA X (e :: es) t) (hg : Gl X x := by rfl)
    (hdb : (x == ("__debug__" : Str)) = false := by decide) (he : starEach (e :: es) X.env = (false, eval e X.env) :: starEach es X.env := by rfl)
    (hpl : (backTo pos (starEach es X.env)).any (·.1) = false := by rfl) : PE X (.Call (.Name x p) (e :: es) [] pos) (tFun sp dvs E t) := by
  obtain ⟨fd, ds, F, hb, hd⟩ := B.ex
  exact pe_callSD F hr hg hm B.kp hb hd hx ha hdb he hpl
/-- o.m(..): ms tells of which classes the receiver may be, and each one's promise -/
def tMth (m : Str) (ms : Addr → Sp → Prop) (E : St → XK) (ta : TE) (t : TA) : TE := fun σ H Q =>
  ta σ H fun x H1 => ∃ a C dx fs sp, x = .ref a ∧ H1 a = some (.ins C dx fs) ∧ ms C sp ∧ fs.lookup m = none ∧ t σ H1 fun vs H2 => sp (x :: vs) H2 Q (E σ)
def one (C0 : Addr) (sp0 : Sp) : Addr → Sp → Prop := fun C sp => C = C0 ∧ sp = sp0
def oneD (C0 : Addr) (sp0 : Sp) (dvs : List V) : Addr → Sp → Prop := fun C sp => C = C0 ∧ sp = fun vs H Q E => sp0 (vs ++ dvs) H Q E
def orM (m1 m2 : Addr → Sp → Prop) : Addr → Sp → Prop := fun C sp => m1 C sp ∨ m2 C sp
/-- what is needed of each class -/
def MthOk (P : Program) (w : World) (K : PySem.W.Frag) (mg : Str → Option Value) (base : Heap) (k : Nat) (m : Str) (ms : Addr → Sp → Prop) : Prop :=
  ∀ C sp, ms C sp → Cls K C ∧ ∃ (f : Addr) (ps : List Str) (dvs : List V) (sp' : Sp), Meth K C m f ∧ Cb P w K mg base k f ps dvs sp' ∧ ∀ vs H Q E, sp vs H Q E → sp' (vs ++ dvs) H Q E
theorem mo_one {P : Program} {w : World} {K : PySem.W.Frag} {mg : Str → Option Value} {base : Heap} (c : Cls K C) (hm : Meth K C m f) {j : Nat} (B : Cb P w K mg base j f ps [] sp) (hj : j ≤ k) : MthOk P w K mg base k m (one C sp) := by
  rintro C' sp' ⟨rfl, rfl⟩
  obtain ⟨⟨fd, ds, F, r⟩, kp⟩ := B
  exact ⟨c, f, ps, [], sp', hm, ⟨⟨fd, ds, F.mono hj, r⟩, kp⟩, fun vs H Q E h => by rw [List.append_nil]; exact h⟩
theorem mo_oneD {P : Program} {w : World} {K : PySem.W.Frag} {mg : Str → Option Value} {base : Heap} (c : Cls K C) (hm : Meth K C m f) {j : Nat} (B : Cb P w K mg base j f ps dvs sp) (hj : j ≤ k) : MthOk P w K mg base k m (oneD C sp dvs) := by
  rintro C' sp' ⟨rfl, rfl⟩
  obtain ⟨⟨fd, ds, F, r⟩, kp⟩ := B
  exact ⟨c, f, ps, dvs, sp, hm, ⟨⟨fd, ds, F.mono hj, r⟩, kp⟩, fun vs H Q E h => h⟩
theorem mo_or {P : Program} {w : World} {K : PySem.W.Frag} {mg : Str → Option Value} {base : Heap} {m1 m2 : Addr → Sp → Prop} (h1 : MthOk P w K mg base k m m1) (h2 : MthOk P w K mg base k m m2) : MthOk P w K mg base k m (orM m1 m2) := fun C sp h => h.elim (h1 C sp) (h2 C sp)
abbrev MForm (m : Str) (o : Expr) (es : List Expr) (apos pos : Pos) (env : Env) (pl : Sem Bool) : Prop :=
  eval (.Call (.Attribute o m apos) es [] pos) env = (do
    let ov ← eval o env
    standAt apos.atName
    let (g, first) ← holding [ov] (getMethod ov m pl)
    callWith pos g first (backTo pos (starEach es env)) (backToKw pos (keywordEach [] env)))
theorem pe_mth {pl : Sem Bool} {ms : Addr → Sp → Prop} (he : PE X o ta) (M : MthOk X.prog X.w X.K X.mg X.base k m ms) (hr : Room k X.A) (hx : Out X E) (ha : PA X (e :: es) t)
    (hst : starEach (e :: es) X.env = (false, eval e X.env) :: starEach es X.env := by rfl) (hpl : (backTo pos (starEach es X.env)).any (·.1) = false := by rfl)
    (ht : MForm m o (e :: es) apos pos X.env pl := by rfl) : PE X (.Call (.Attribute o m apos) (e :: es) [] pos) (tMth m ms E ta t) := by
  refine ⟨fun pins s σ H Q I h => ?_⟩
  refine PySem.W.methodCall_KW (pl := pl) (thn (he.run pins s σ H _ I h) fun u s1 hh => ?_) ht
  obtain ⟨y, H1, I1, ry, a, C, dx, fs, sp, ey, ea, hC, l, q⟩ := hh
  obtain ⟨c, f, ps, dvs, sp', hm, B, imp⟩ := M C sp hC
  obtain ⟨fd, ds, F, hb, hd⟩ := B.ex
  subst ey
  obtain rfl : u = Value.ref a := ry
  refine getmeth_ok I1 ea c hm l ?_
  refine PySem.W.callWith_K (first := [.ref a]) (h₀ := X.base) I.ok.mod.kin hm.kp (thn (ha.run pos pins s1 σ H1 _ I1 q) fun us s2 hh => ?_) hst hpl
  obtain ⟨vs, H2, I2, r, q2⟩ := hh
  exact ⟨I2.kIn, run_fnSD (us := .ref a :: us) (vs := .ref a :: vs) F hr hb hd (hx σ) I2 (.cons rfl r) (imp _ _ _ _ q2)⟩
theorem pe_mth0 {pl : Sem Bool} {ms : Addr → Sp → Prop} (he : PE X o ta) (M : MthOk X.prog X.w X.K X.mg X.base k m ms) (hr : Room k X.A) (hx : Out X E)
    (ht : MForm m o [] apos pos X.env pl := by rfl) : PE X (.Call (.Attribute o m apos) [] [] pos) (tMth m ms E ta tNil) := by
  refine ⟨fun pins s σ H Q I h => ?_⟩
  refine PySem.W.methodCall_KW (pl := pl) (thn (he.run pins s σ H _ I h) fun u s1 hh => ?_) ht
  obtain ⟨y, H1, I1, ry, a, C, dx, fs, sp, ey, ea, hC, l, q⟩ := hh
  obtain ⟨c, f, ps, dvs, sp', hm, B, imp⟩ := M C sp hC
  obtain ⟨fd, ds, F, hb, hd⟩ := B.ex
  subst ey
  obtain rfl : u = Value.ref a := ry
  refine getmeth_ok I1 ea c hm l ?_
  exact PySem.W.callWith_K0 (first := [.ref a]) I1.kIn hm.kp (run_fnSD (us := [.ref a]) (vs := [.ref a]) F hr hb hd (hx σ) I1 (.cons rfl .nil) (imp _ _ _ _ q))
/-- C(..): the new instance x and its dict dx, then __init__ -/
def tNew (C : Addr) (sp : Sp) (dvs : List V) (E : St → XK) (t : TA) : TE := fun σ H Q => t σ H fun vs H1 => ∀ x dx, H1 x = none → H1 dx = none → dx ≠ x →
  sp (.ref x :: (vs ++ dvs)) (upd (upd H1 dx (.own x)) x (.ins C dx [])) (fun v H2 => v = .non ∧ Q (.ref x) H2) (E σ)
theorem run_new {pins : List (Addr × Obj)} {σ : St} {H : Hp} {s : Shared} {Q : VK} {us : List Value} {vs : List V} (M : Mk X.K C f) (B : CbX X k f ps dvs sp) (hr : Room (k + 1) X.A) (hx : Out X E) (I : Inv X pins σ H s) (r : Vals vs us)
    (h : ∀ x dx, H x = none → H dx = none → dx ≠ x → sp (.ref x :: (vs ++ dvs)) (upd (upd H dx (.own x)) x (.ins C dx [])) (fun v H2 => v = .non ∧ Q (.ref x) H2) (E σ)) :
    wpAny (model X.prog X.w) X.A (call (.ref C) us) (EP X pins σ Q) X.xe s := by
  obtain ⟨fd, ds, F, hb, hd⟩ := B.ex
  have n1 := I.hok.fresh (Nat.le_succ s.heap.objs.size)
  have n2 := I.hok.fresh (Nat.le_refl s.heap.objs.size)
  have hq := h (s.heap.objs.size + 1) s.heap.objs.size n1 n2 (Nat.ne_of_lt (Nat.lt_succ_self _))
  have I2 := Inv.made (C := C) I
  have r2 : Vals (V.ref (s.heap.objs.size + 1) :: (vs ++ dvs)) (Value.ref (s.heap.objs.size + 1) :: (us ++ ds)) := .cons rfl (r.append hd)
  have hl : (Value.ref (s.heap.objs.size + 1) :: us ++ ds).length = ps.length := r2.length.symm.trans (F.len _ _ _ _ hq)
  have go := F.run _ X.stack _ _ ⟨Value.ref (s.heap.objs.size + 1) :: us, []⟩ _ _ _ (E σ) (hr.make C us []) (I2.env0.make C us []) (hb _ (Value.ref (s.heap.objs.size + 1) :: us) I2.kIn hl) r2 hq
  refine wpAny_call (make_map (f := f) I.kIn M.makes M.init (beq_iff_eq.mp M.fn) (codeAny_mono go fun res s' hq' => ?_))
  match res, hq' with
  | .error er, hq' => exact hx σ pins _ _ er s' I2 hq'
  | .ok (.ret u), hq' =>
    obtain ⟨rv, H', I3, rel, ev, q3⟩ := I2.after hq'
    subst ev
    exact ⟨rel, ⟨V.ref (s.heap.objs.size + 1), H', I3, rfl, q3⟩⟩
  | .ok .next, hq' => exact False.elim hq'
  | .ok .brk, hq' => exact False.elim hq'
  | .ok .cont, hq' => exact False.elim hq'
theorem pe_new (M : Mk X.K C f) (B : CbX X k f ps dvs sp) (hr : Room (k + 1) X.A) (hm : X.mg x = some (.ref C)) (hx : Out X E) (ha : PA X (e :: es) t) (hg : Gl X x := by rfl)
    (hdb : (x == ("__debug__" : Str)) = false := by decide) (he : starEach (e :: es) X.env = (false, eval e X.env) :: starEach es X.env := by rfl)
    (hpl : (backTo pos (starEach es X.env)).any (·.1) = false := by rfl) : PE X (.Call (.Name x p) (e :: es) [] pos) (tNew C sp dvs E t) := by
  refine ⟨fun pins s σ H Q I h => ?_⟩
  refine wpAny_Call_Name_kw (ld_glob I hg hm ?_ hdb)
  refine PySem.W.callWith_K (h₀ := X.base) I.ok.mod.kin M.kp (thn (ha.run pos pins s σ H _ I h) fun us s1 hh => ?_) he hpl
  obtain ⟨vs, H1, I1, r, q⟩ := hh
  exact ⟨I1.kIn, run_new M B hr hx I1 r q⟩
theorem pe_new0 (M : Mk X.K C f) (B : CbX X k f ps dvs sp) (hr : Room (k + 1) X.A) (hm : X.mg x = some (.ref C)) (hx : Out X E) (hg : Gl X x := by rfl)
    (hdb : (x == ("__debug__" : Str)) = false := by decide) : PE X (.Call (.Name x p) [] [] pos) (tNew C sp dvs E tNil) := by
  refine ⟨fun pins s σ H Q I h => ?_⟩
  refine wpAny_Call_Name_kw (ld_glob I hg hm ?_ hdb)
  exact PySem.W.callWith_K0 I.kIn M.kp (run_new (us := []) M B hr hx I .nil h)
end
/-- an own class of exceptions -/
structure Exn (K : PySem.W.Frag) (mg : Str → Option Value) (x : Str) (C : Addr) : Prop where
  g : mg x = some (.ref C)
  ok : PySem.W.excIn K C He.veBase "ValueError.__new__" = true
  kp : PySem.W.keepIn K (.ref C) = true
  sub : PySem.W.subIn K (.ref C) (.type "BaseException") = some true
  ty : PySem.W.typeIn K (.ref C) = some (.type "type")
section
variable {X : Cx} {C : Addr} {W : WX} {x m : Str} {j : Nat} {p p2 pos pos2 : Pos}
/-- raise C('m') -/
def tRz (W : WX) (C : Addr) : TS := fun _ σ H => W (.ref C) none σ H
theorem ps_rz (N : Exn X.K X.mg x C) (hc : X.calm = true) (tk : Takes X W) (hg : Gl X x := by rfl) (hdb : (x == ("__debug__" : Str)) = false := by decide) :
    PS X (.Raise (some (.Call (.Name x p) [.Constant (.str m) j p2] [] pos)) none pos2) (tRz W C) :=
  ps_raise hc tk (pmk_own PySem.F.excBase_ValueError N.ok N.g N.kp (raises_own N.sub N.ty) hg hdb)
end
/-! ### globals as values -/
section
variable {X : Cx} {x : Str} {pos : Pos}
theorem pe_gint {i : Int} (hm : ∃ t, X.mg x = some (.int i t)) (hg : Gl X x := by rfl) (hd : (x == ("__debug__" : Str)) = false := by decide) : PE X (.Name x pos) (tC (.int i)) := by
  obtain ⟨t, hm⟩ := hm
  exact pe_glob hg hm ⟨t, rfl⟩ hd
theorem pe_gstr {z : Str} (hm : ∃ t, X.mg x = some (.str z t)) (hg : Gl X x := by rfl) (hd : (x == ("__debug__" : Str)) = false := by decide) : PE X (.Name x pos) (tC (.str z)) := by
  obtain ⟨t, hm⟩ := hm
  exact pe_glob hg hm ⟨t, rfl⟩ hd
theorem pe_gref {a : Addr} (hm : X.mg x = some (.ref a)) (hg : Gl X x := by rfl) (hd : (x == ("__debug__" : Str)) = false := by decide) : PE X (.Name x pos) (tC (.ref a)) := pe_glob hg hm rfl hd
theorem pe_gty {n : String} (hm : X.mg x = none) (hv : bootBuiltins x = some (.type n)) (hg : Gl X x := by rfl) (hn : x ≠ "__name__" := by decide) (hd : (x == ("__debug__" : Str)) = false := by decide) : PE X (.Name x pos) (tC (.ty n)) := pe_bltn hg hm hv rfl hn hd
end
/-! ### a def -/
section
variable {P : Program} {w : World} {K : PySem.W.Frag} {mg : Str → Option Value} {base : Heap} {x qual : Str} {st : Stmt} {f : Addr} {N ps : List Str} {k : Nat} {sp : Sp} {dvs : List V}
abbrev DefAt (K : PySem.W.Frag) (x qual : Str) (st : Stmt) (dvs : List V) (f : Addr) : Prop := ∃ fd, FunD K x qual (defArgs st) (defBody st) (defScope st) dvs [] f fd
abbrev cxD (P : Program) (w : World) (K : PySem.W.Frag) (mg : Str → Option Value) (base : Heap) (N : List Str) (qual : Str) (st : Stmt) (f : Addr) (cdv : Value) (A : Around) (outer : List Env) (s : Shared) (H : Hp) (E : XK) : Cx :=
  cxOf (L2.CX P w) P w K mg base N qual (defScope st) f cdv A outer s H E
theorem cxD_takes {cdv : Value} {A : Around} {outer : List Env} {s : Shared} {H : Hp} {E : XK} : Takes (cxD P w K mg base N qual st f cdv A outer s H E) (fun cls d _ H' => E cls d H') := takes_of rfl rfl rfl rfl
theorem cxD_passes {cdv : Value} {A : Around} {outer : List Env} {s : Shared} {H : Hp} {E : XK} : PassesOwn (model P w) (A.deeper (envOfC qual (defScope st) s.heap.objs.size f cdv)) (envOfC qual (defScope st) s.heap.objs.size f cdv) (cxD P w K mg base N qual st f cdv A outer s H E).xe :=
  passes_of (X := cxD P w K mg base N qual st f cdv A outer s H E) rfl
/-- a def without defaults, by its body's reading T -/
theorem cb_of {T : XK → TS} (F : DefAt K x qual st [] f) (S : FnScope N ps (defScope st)) (len : ∀ vs H Q E, sp vs H Q E → vs.length = ps.length)
    (hb : ∀ (kV doc pm : Value) (an : Option Addr) (cdv ct : Value) (us : List Value), us.length = ps.length → bindArgs (PySem.W.fnOf x qual (defArgs st) (defBody st) (defScope st) .none kV doc pm an cdv ct) ⟨us, []⟩ = pure (ps.zip us))
    (body : ∀ (cdv : Value) (A : Around) (outer : List Env) (s : Shared) (H : Hp) (E : XK), Room k (A.deeper (envOfC qual (defScope st) s.heap.objs.size f cdv)) → PSs (cxD P w K mg base N qual st f cdv A outer s H E) (defBody st) (T E))
    (read : ∀ vs H Q E, sp vs H Q E → T E { nx := fun _ H' => Q .non H', rt := Q } (start N vs) H) : Cb P w K mg base (k + 1) f ps [] sp := by
  obtain ⟨fd, F⟩ := F
  exact ⟨⟨fd, [], F.ok S len fun cdv A outer s H vs Q E hr h => ⟨T E, body cdv A outer s H E hr, read vs H Q E h⟩, F.bindsN hb, .nil⟩, F.kp⟩
theorem Cb.mono {j : Nat} (B : Cb P w K mg base j f ps dvs sp) (h : j ≤ k) : Cb P w K mg base k f ps dvs sp := by
  obtain ⟨⟨fd, ds, F, r⟩, kp⟩ := B
  exact ⟨⟨fd, ds, F.mono h, r⟩, kp⟩
theorem Cb.imp {sp' : Sp} (B : Cb P w K mg base k f ps dvs sp) (h : ∀ vs H Q E, sp' vs H Q E → sp vs H Q E) : Cb P w K mg base k f ps dvs sp' := by
  obtain ⟨⟨fd, ds, F, r⟩, kp⟩ := B
  exact ⟨⟨fd, ds, F.imp h, r⟩, kp⟩
end
/-! Fo, steps: one for each form of a reading; what is left is what the form asks. -/
/-! ### lists of slots -/
inductive SetR : St → Nat → Option V → St → Prop
  | zero {a x : Option V} {l : St} : SetR (a :: l) 0 x (x :: l)
  | succ {a x : Option V} {l l' : St} {i : Nat} : SetR l i x l' → SetR (a :: l) (i + 1) x (a :: l')
theorem SetR.eq {σ σ' : St} {i : Nat} {x : Option V} (h : SetR σ i x σ') : σ.set i x = σ' := by
  induction h with
  | zero => rfl
  | succ _ ih => rw [List.set_cons_succ, ih]
/-- n at the slots with v put in place i -/
def asgn (i : Nat) (n : St → Hp → Prop) (v : V) (σ : St) (H : Hp) : Prop := n (σ.set i (some v)) H
def lstK (vs : List V) (H : Hp) (Q : VK) : Prop := vs.length ≤ sizeLine ∧ ∀ p, H p = none → Q (.ref p) (upd H p (.lst vs))
def tupK (vs : List V) (H : Hp) (Q : VK) : Prop := vs.length ≤ sizeLine ∧ ∀ p, H p = none → Q (.ref p) (upd H p (.tup vs))
def fldK (K : PySem.W.Frag) (f : Str) (x : V) (H : Hp) (Q : VK) : Prop := ∃ a C dx fs v, x = .ref a ∧ H a = some (.ins C dx fs) ∧ Cls K C ∧ NoAttr K C f ∧ fs.lookup f = some v ∧ Q v H
def stoK (K : PySem.W.Frag) (f : Str) (y x : V) (H : Hp) (n : Hp → Prop) : Prop := ∃ a C dx fs, x = .ref a ∧ H a = some (.ins C dx fs) ∧ Cls K C ∧ NoAttr K C f ∧ fs.length < 1000 ∧ n (upd H a (.ins C dx (putF f y fs)))
section
variable {K : PySem.W.Frag} {σ σ' : St} {H H' : Hp} {Q : VK} {R : Bool → Hp → Prop} {S : List V → Hp → Prop} {te ta tb tc : TE} {t u : TS} {tt tu : TT} {tl : TA} {x y v : V} {i j : Int} {k b : Bool} {r r' : R2} {z z' : Str}
variable {n : St → Hp → Prop} {rt : VK} {bk ct : St → Hp → Prop} {m : Nat} {p q : Addr} {xs ys vs : List V}
/-! ### expressions -/
theorem g_var (h : σ[m]? = some (some v)) (q : Q v H) : tVar m σ H Q := ⟨v, h, q⟩
theorem g_c (q : Q v H) : tC v σ H Q := q
theorem g_op (q : ta σ H fun x H1 => tb σ H1 fun y H2 => r x y H2 Q) : tOp r ta tb σ H Q := q
theorem g_un {r : V → Hp → VK → Prop} (q : ta σ H fun x H1 => r x H1 Q) : tUn r ta σ H Q := q
theorem g_cb {r : List V → Hp → VK → Prop} (q : tl σ H fun vs H1 => r vs H1 Q) : tCB r tl σ H Q := q
theorem g_nil (q : S [] H) : tNil σ H S := q
theorem g_cons {tr : TA} (q : te σ H fun x H1 => tr σ H1 fun xs H2 => S (x :: xs) H2) : tCons te tr σ H S := q
theorem g_bm {T : String} {r : V → List V → Hp → VK → Prop} (q : te σ H fun x H1 => tyV K T x H1 ∧ tl σ H1 fun xs H2 => r x xs H2 Q) : tBM K T r te tl σ H Q := q
theorem g_bm0 {T : String} {r : V → List V → Hp → VK → Prop} (q : te σ H fun x H1 => tyV K T x H1 ∧ r x [] H1 Q) : tBM0 K T r te σ H Q := q
theorem g_lst (q : tl σ H fun vs H1 => lstK vs H1 Q) : tLst tl σ H Q := q
theorem g_tup (q : tl σ H fun vs H1 => tupK vs H1 Q) : tTup tl σ H Q := q
theorem g_fld {f : Str} (q : te σ H fun x H1 => fldK K f x H1 Q) : tFld K te f σ H Q := q
theorem g_fun {sp : Sp} {dvs : List V} {E : St → XK} (q : tl σ H fun vs H1 => sp (vs ++ dvs) H1 Q (E σ)) : tFun sp dvs E tl σ H Q := q
theorem g_new {C : Addr} {sp : Sp} {dvs : List V} {E : St → XK} (q : tl σ H fun vs H1 => ∀ x dx, H1 x = none → H1 dx = none → dx ≠ x → sp (.ref x :: (vs ++ dvs)) (upd (upd H1 dx (.own x)) x (.ins C dx [])) (fun v H2 => v = .non ∧ Q (.ref x) H2) (E σ)) :
    tNew C sp dvs E tl σ H Q := q
theorem g_mth {f : Str} {ms : Addr → Sp → Prop} {E : St → XK} (q : te σ H fun x H1 => ∃ a C dx fs sp, x = .ref a ∧ H1 a = some (.ins C dx fs) ∧ ms C sp ∧ fs.lookup f = none ∧ tl σ H1 fun vs H2 => sp (x :: vs) H2 Q (E σ)) : tMth f ms E te tl σ H Q := q
theorem g_andV (q : ta σ H fun x H1 => ∃ c, x = .bl c ∧ if c = true then tb σ H1 Q else Q (.bl false) H1) : tAndV ta tb σ H Q := q
theorem g_orV (q : ta σ H fun x H1 => ∃ c, x = .bl c ∧ if c = true then Q (.bl true) H1 else tb σ H1 Q) : tOrV ta tb σ H Q := q
theorem g_notV (q : te σ H fun x H1 => ∃ c, x = .bl c ∧ Q (.bl (!c)) H1) : tNotV te σ H Q := q
theorem g_chain (q : ta σ H fun x H1 => tb σ H1 fun y H2 => r x y H2 fun z H3 => ∃ k, z = .bl k ∧ if k = true then tc σ H3 fun w H4 => r' y w H4 Q else Q (.bl false) H3) : tChain r r' ta tb tc σ H Q := q
theorem g_sl {rr : V → Option Int → Option Int → Hp → VK → Prop} {to1 to2 : TO} (q : te σ H fun x H1 => to1 σ H1 fun a H2 => to2 σ H2 fun b H3 => rr x a b H3 Q) : tSl rr te to1 to2 σ H Q := q
theorem g_part {S : Option Int → Hp → Prop} (q : te σ H fun x H1 => ∃ i, x = .int i ∧ S (some i) H1) : tPart te σ H S := q
theorem g_nopart {S : Option Int → Hp → Prop} (q : S none H) : tNoPart σ H S := q
theorem g_bits (q : te σ H fun x H1 => ∃ i, x = .int i ∧ Q (.int (Builtin.Int.intBits i : Nat)) H1) : tBits te σ H Q := q
theorem g_dget (q : ta σ H fun x H1 => tb σ H1 fun y H2 => ∃ a v, x = .ref a ∧ DGet H2 a y (some v) ∧ Q v H2) : tDGet ta tb σ H Q := q
theorem g_din (q : ta σ H fun y H1 => tb σ H1 fun x H2 => ∃ a o, x = .ref a ∧ DGet H2 a y o ∧ Q (.bl o.isSome) H2) : tDIn ta tb σ H Q := q
theorem g_dnotin (q : ta σ H fun y H1 => tb σ H1 fun x H2 => ∃ a o, x = .ref a ∧ DGet H2 a y o ∧ Q (.bl (!o.isSome)) H2) : tDNotIn ta tb σ H Q := q
/-! ### values that are known -/
theorem g_int (q : ∀ w, w = i → ∃ j, V.int w = .int j ∧ Q (.int j) H) : ∃ j, V.int i = .int j ∧ Q (.int j) H := q i rfl
theorem g_eint {T : Int → Prop} (q : T i) : ∃ j, V.int i = .int j ∧ T j := ⟨i, rfl, q⟩
theorem g_ebl {T : Bool → Prop} (q : T b) : ∃ j, V.bl b = .bl j ∧ T j := ⟨b, rfl, q⟩
theorem g_plus (q : Q (.int (i + j)) H) : rPlus K (.int i) (.int j) H Q := .inl ⟨i, j, rfl, rfl, q⟩
theorem g_cat (hx : H p = some (.lst xs)) (hy : H m = some (.lst ys)) (hl : xs.length + ys.length ≤ sizeLine) (q : ∀ l, H l = none → Q (.ref l) (upd H l (.lst (xs ++ ys)))) : rPlus K (.ref p) (.ref m) H Q := .inr (.inl ⟨p, m, xs, ys, rfl, rfl, hx, hy, hl, q⟩)
theorem g_plusS (hl : z.length + z'.length ≤ sizeLine) (q : Q (.str (z ++ z')) H) : rPlus K (.str z) (.str z') H Q := .inr (.inr (.inl ⟨z, z', rfl, rfl, hl, q⟩))
theorem g_minus (q : Q (.int (i - j)) H) : rMinus (.int i) (.int j) H Q := ⟨i, j, rfl, rfl, q⟩
theorem g_times (h : IntMulOk i j) (q : Q (.int (i * j)) H) : rTimes (.int i) (.int j) H Q := .inl ⟨i, j, rfl, rfl, h, q⟩
theorem g_rep (hx : H p = some (.lst xs)) (h1 : -(2 ^ 63) ≤ i) (h2 : i < 2 ^ 63) (hl : xs.length * i.toNat ≤ sizeLine) (q : ∀ l, H l = none → Q (.ref l) (upd H l (.lst (List.replicate i.toNat xs).flatten))) : rTimes (.ref p) (.int i) H Q :=
  .inr ⟨p, i, xs, rfl, rfl, hx, h1, h2, hl, q⟩
theorem g_floor (h : CDivW i j) (q : Q (.int (i / j)) H) : rFloor (.int i) (.int j) H Q := ⟨i, j, rfl, rfl, h, q⟩
theorem g_rest (h : 0 < j) (q : Q (.int (i % j)) H) : rRest (.int i) (.int j) H Q := ⟨i, j, rfl, rfl, h, q⟩
theorem g_pow (h : CPow i j) (q : Q (.int (i ^ j.toNat)) H) : L2.rI CPow (fun i j => .int (i ^ j.toNat)) (.int i) (.int j) H Q := ⟨i, j, rfl, rfl, h, q⟩
theorem g_lsh (h : CShl i j) (q : Q (.int (i * 2 ^ j.toNat)) H) : rLsh (.int i) (.int j) H Q := ⟨i, j, rfl, rfl, h, q⟩
theorem g_rsh (h : 0 ≤ j) (q : Q (.int (i / 2 ^ j.toNat)) H) : rRsh (.int i) (.int j) H Q := ⟨i, j, rfl, rfl, h, q⟩
theorem g_neg (q : Q (.int (-i)) H) : rNeg (.int i) H Q := ⟨i, rfl, q⟩
theorem g_lt (q : Q (.bl (decide (i < j))) H) : iLt (.int i) (.int j) H Q := ⟨i, j, rfl, rfl, q⟩
theorem g_le (q : Q (.bl (decide (i ≤ j))) H) : rLe (.int i) (.int j) H Q := .inl ⟨i, j, rfl, rfl, q⟩
theorem g_leS (q : Q (.bl (!decide (z'.cps.toList < z.cps.toList))) H) : rLe (.str z) (.str z') H Q := .inr ⟨z, z', rfl, rfl, q⟩
theorem g_gt (q : Q (.bl (decide (j < i))) H) : iGt (.int i) (.int j) H Q := ⟨i, j, rfl, rfl, q⟩
theorem g_ge (q : Q (.bl (decide (j ≤ i))) H) : iGe (.int i) (.int j) H Q := ⟨i, j, rfl, rfl, q⟩
theorem dec_int (i j : Int) : decide (V.int i = V.int j) = decide (i = j) := by
  by_cases h : i = j
  · rw [decide_eq_true h, decide_eq_true (by rw [h])]
  · rw [decide_eq_false h, decide_eq_false (fun e => h (V.int.inj e))]
theorem dec_str (i j : Str) : decide (V.str i = V.str j) = decide (i = j) := by
  by_cases h : i = j
  · rw [decide_eq_true h, decide_eq_true (by rw [h])]
  · rw [decide_eq_false h, decide_eq_false (fun e => h (V.str.inj e))]
theorem g_same (q : Q (.bl (decide (i = j))) H) : rSame K (.int i) (.int j) H Q := .inl ⟨rfl, by rw [dec_int]; exact q⟩
theorem g_diff (q : Q (.bl (!decide (i = j))) H) : rDiff K (.int i) (.int j) H Q := .inl ⟨rfl, by rw [dec_int]; exact q⟩
theorem g_sameS (q : Q (.bl (decide (z = z'))) H) : rSame K (.str z) (.str z') H Q := .inl ⟨rfl, by rw [dec_str]; exact q⟩
theorem g_diffS (q : Q (.bl (!decide (z = z'))) H) : rDiff K (.str z) (.str z') H Q := .inl ⟨rfl, by rw [dec_str]; exact q⟩
theorem g_isno (q : Q (.bl (decide (x = .non))) H) : rIsNo x .non H Q := ⟨rfl, q⟩
theorem g_notno (q : Q (.bl (!decide (x = .non))) H) : rNotNo x .non H Q := ⟨rfl, q⟩
theorem g_lenL (h : SqL K H p xs) (q : Q (.int (xs.length : Int)) H) : rLength K [.ref p] H Q := ⟨.ref p, xs.length, rfl, .inl ⟨xs, h, rfl⟩, q⟩
theorem g_lenT (h : SqT K H p xs) (q : Q (.int (xs.length : Int)) H) : rLength K [.ref p] H Q := ⟨.ref p, xs.length, rfl, .inr ⟨xs, h, rfl⟩, q⟩
theorem g_lenS (h : z.length ≤ sizeLine) (q : Q (.int (z.length : Int)) H) : rLength K [.str z] H Q := ⟨.str z, z.length, rfl, ⟨h, rfl⟩, q⟩
theorem g_listL (h : SqL K H p xs) (q : ∀ l, H l = none → Q (.ref l) (upd H l (.lst xs))) : rListOf K [.ref p] H Q := ⟨p, xs, rfl, .inl h, q⟩
theorem g_listT (h : SqT K H p xs) (q : ∀ l, H l = none → Q (.ref l) (upd H l (.lst xs))) : rListOf K [.ref p] H Q := ⟨p, xs, rfl, .inr h, q⟩
theorem g_tupleL (h : SqL K H p xs) (q : ∀ l, H l = none → Q (.ref l) (upd H l (.tup xs))) : rTupleOf K [.ref p] H Q := ⟨p, xs, rfl, .inl ⟨h, q⟩⟩
theorem g_max2 (q : Q (.int (if j > i then j else i)) H) : rGreatest K [.int i, .int j] H Q := .inl ⟨i, j, rfl, q⟩
theorem g_min2 (q : Q (.int (if j < i then j else i)) H) : rLeast K [.int i, .int j] H Q := .inl ⟨i, j, rfl, q⟩
theorem g_intI (q : Q (.int i) H) : rInt1 [.int i] H Q := .inl ⟨i, rfl, q⟩
theorem g_intB (q : Q (.int (if b then 1 else 0)) H) : rInt1 [.bl b] H Q := .inr ⟨b, rfl, q⟩
theorem g_all {bs : List Bool} (h : SqL K H p (bs.map V.bl)) (q : Q (.bl (bs.all id)) H) : rAll K [.ref p] H Q := ⟨p, bs, rfl, h, q⟩
theorem g_any {bs : List Bool} (h : SqL K H p (bs.map V.bl)) (q : Q (.bl (bs.any id)) H) : rAny K [.ref p] H Q := ⟨p, bs, rfl, h, q⟩
theorem g_sum {ns : List Int} (h : SqL K H p (ns.map V.int)) (q : Q (.int ns.sum) H) : rSum K [.ref p] H Q := ⟨p, ns, rfl, h, q⟩
theorem g_ixL (h : SqL K H p xs) (ha : atI xs i = some v) (q : Q v H) : rIx K (.ref p) (.int i) H Q := .inl ⟨p, xs, i, v, rfl, rfl, h, ha, q⟩
theorem g_ixT (h : SqT K H p xs) (ha : atI xs i = some v) (q : Q v H) : rIx K (.ref p) (.int i) H Q := .inr (.inl ⟨p, xs, i, v, rfl, rfl, h, ha, q⟩)
theorem g_ixS {c : Nat} (hl : z.length ≤ sizeLine) (ha : atI z.cps.toList i = some c) (q : Q (.str ⟨#[c]⟩) H) : rIx K (.str z) (.int i) H Q := .inr (.inr ⟨z, i, c, rfl, rfl, hl, ha, q⟩)
theorem g_slL {lo hi : Option Int} (h : SqL K H p xs) (q : ∀ l, H l = none → Q (.ref l) (upd H l (.lst (cutV xs lo hi)))) : rSlL K (.ref p) lo hi H Q := ⟨p, xs, rfl, h, q⟩
theorem g_isi {s : Str} {tn cn : String} (ht : TyX K H x (.type tn)) (hk : kitB tn cn = some b) (q : Q (.bl b) H) : rIsi2 K [x, .ty cn] H Q := .inl ⟨x, .ty cn, .type tn, .type cn, b, rfl, .ty cn, ht, kit_ty hk, q⟩
theorem g_append (h : H p = some (.lst xs)) (hl : xs.length < sizeLine) (q : Q .non (upd H p (.lst (xs ++ [y])))) : rAppend (.ref p) [y] H Q := ⟨p, xs, y, rfl, rfl, h, hl, q⟩
theorem g_reverse (h : H p = some (.lst xs)) (q : Q .non (upd H p (.lst xs.reverse))) : rReverse (.ref p) [] H Q := ⟨p, xs, rfl, rfl, h, q⟩
theorem g_clear (h : H p = some (.lst xs)) (q : Q .non (upd H p (.lst []))) : rClear (.ref p) [] H Q := ⟨p, xs, rfl, rfl, h, q⟩
theorem g_tyL {A : Prop} (h : SqL K H p xs) (q : A) : tyV K "list" (.ref p) H ∧ A := ⟨.inl ⟨rfl, xs, h⟩, q⟩
theorem g_tyS {A : Prop} (q : A) : tyV K "str" (.str z) H ∧ A := ⟨rfl, q⟩
theorem g_lstK (hl : vs.length ≤ sizeLine) (q : ∀ p, H p = none → Q (.ref p) (upd H p (.lst vs))) : lstK vs H Q := ⟨hl, q⟩
theorem g_tupK (hl : vs.length ≤ sizeLine) (q : ∀ p, H p = none → Q (.ref p) (upd H p (.tup vs))) : tupK vs H Q := ⟨hl, q⟩
theorem g_fldK {f : Str} {C dx : Addr} {fs : List (Str × V)} (h : H p = some (.ins C dx fs)) (c : Cls K C) (na : NoAttr K C f) (hl : fs.lookup f = some v) (q : Q v H) : fldK K f (.ref p) H Q := ⟨p, C, dx, fs, v, rfl, h, c, na, hl, q⟩
theorem g_stoK {f : Str} {C dx : Addr} {fs : List (Str × V)} {n : Hp → Prop} (h : H p = some (.ins C dx fs)) (c : Cls K C) (na : NoAttr K C f) (hl : fs.length < 1000) (q : n (upd H p (.ins C dx (putF f y fs)))) : stoK K f y (.ref p) H n := ⟨p, C, dx, fs, rfl, h, c, na, hl, q⟩
/-! ### tests -/
theorem g_test (q : te σ H fun x H1 => ∃ c, x = .bl c ∧ R c H1) : tTest te σ H R := q
theorem g_B (q : te σ H fun x H1 => ∃ c, x = .bl c ∧ R c H1) : tB te σ H R := q
theorem g_tru (q : te σ H fun x H1 => ∃ c, TruV K x H1 c ∧ R c H1) : tTru K te σ H R := q
theorem g_truB {T : Bool → Prop} (q : T b) : ∃ c, TruV K (.bl b) H c ∧ T c := ⟨b, rfl, q⟩
theorem g_and (q : tt σ H fun c H1 => if c = true then tu σ H1 R else R false H1) : tAnd tt tu σ H R := q
theorem g_or (q : tt σ H fun c H1 => if c = true then R true H1 else tu σ H1 R) : tOr tt tu σ H R := q
theorem g_not (q : tt σ H fun c H1 => R (!c) H1) : tNot tt σ H R := q
theorem g_ifT {A B : Prop} (q : A) : if true = true then A else B := iteT q
theorem g_ifF {A B : Prop} (q : B) : if false = true then A else B := iteF q
theorem g_ifNT {A B : Prop} (q : B) : if (!true) = true then A else B := iteF q
theorem g_ifNF {A B : Prop} (q : A) : if (!false) = true then A else B := iteT q
theorem dif {c A B : Prop} [Decidable c] (h1 : c → A) (h2 : ¬ c → B) : if decide c = true then A else B := by
  by_cases h : c
  · rw [decide_eq_true h]; exact iteT (h1 h)
  · rw [decide_eq_false h]; exact iteF (h2 h)
theorem difN {c A B : Prop} [Decidable c] (h1 : ¬ c → A) (h2 : c → B) : if (!decide c) = true then A else B := by
  by_cases h : c
  · rw [decide_eq_true h]; exact iteF (h2 h)
  · rw [decide_eq_false h]; exact iteT (h1 h)
theorem difB {A B : Prop} (h1 : b = true → A) (h2 : b = false → B) : if b = true then A else B := by
  cases b with
  | true => exact iteT (h1 rfl)
  | false => exact iteF (h2 rfl)
theorem difNB {A B : Prop} (h1 : b = false → A) (h2 : b = true → B) : if (!b) = true then A else B := by
  cases b with
  | true => exact iteF (h2 rfl)
  | false => exact iteT (h1 rfl)
theorem difY {c A B : Prop} [Decidable c] (h : c) (q : A) : if decide c = true then A else B := by rw [decide_eq_true h]; exact iteT q
theorem difX {c A B : Prop} [Decidable c] (h : ¬ c) (q : B) : if decide c = true then A else B := by rw [decide_eq_false h]; exact iteF q
/-! ### statements -/
theorem g_seq (q : t ⟨u ⟨n, rt, bk, ct⟩, rt, bk, ct⟩ σ H) : tSeq t u ⟨n, rt, bk, ct⟩ σ H := q
theorem g_next (q : n σ H) : tNext ⟨n, rt, bk, ct⟩ σ H := q
theorem g_drop (q : te σ H fun _ H1 => n σ H1) : tDrop te ⟨n, rt, bk, ct⟩ σ H := q
theorem g_ret (q : te σ H rt) : tRet te ⟨n, rt, bk, ct⟩ σ H := q
theorem g_retN (q : rt .non H) : tRetN ⟨n, rt, bk, ct⟩ σ H := q
theorem g_asg (q : te σ H fun v H1 => asgn m n v σ H1) : tAsg te (gName m) ⟨n, rt, bk, ct⟩ σ H := q
theorem g_asgn (r : SetR σ m (some v) σ') (q : n σ' H) : asgn m n v σ H := by unfold asgn; rw [r.eq]; exact q
theorem g_if (q : tt σ H fun c H1 => if c = true then t ⟨n, rt, bk, ct⟩ σ H1 else u ⟨n, rt, bk, ct⟩ σ H1) : tIfS tt t u ⟨n, rt, bk, ct⟩ σ H := q
theorem g_aug {ti : TIp} (hx : σ[m]? = some (some x)) (q : te σ H fun y H1 => ti x y H1 fun z H2 => asgn m n z σ H2) : tAug m te ti ⟨n, rt, bk, ct⟩ σ H := ⟨x, hx, q⟩
theorem g_ip {f : Int → Int → Int} (q : Q (.int (f i j)) H) : ipI f (.int i) (.int j) H Q := ⟨i, j, rfl, rfl, q⟩
theorem g_sto {f : Str} (q : tb σ H fun y H1 => ta σ H1 fun x H2 => stoK K f y x H2 fun H3 => n σ H3) : sFld K ta tb f ⟨n, rt, bk, ct⟩ σ H := q
theorem g_rz {W : WX} {C : Addr} (q : W (.ref C) none σ H) : tRz W C ⟨n, rt, bk, ct⟩ σ H := q
/-! ### promises by the number of arguments -/
end
def on1 (F : V → Hp → VK → XK → Prop) : Sp := fun vs H Q E => ∃ a, vs = [a] ∧ F a H Q E
def on2 (F : V → V → Hp → VK → XK → Prop) : Sp := fun vs H Q E => ∃ a b, vs = [a, b] ∧ F a b H Q E
def on3 (F : V → V → V → Hp → VK → XK → Prop) : Sp := fun vs H Q E => ∃ a b c, vs = [a, b, c] ∧ F a b c H Q E
def on4 (F : V → V → V → V → Hp → VK → XK → Prop) : Sp := fun vs H Q E => ∃ a b c d, vs = [a, b, c, d] ∧ F a b c d H Q E
def on5 (F : V → V → V → V → V → Hp → VK → XK → Prop) : Sp := fun vs H Q E => ∃ a b c d e, vs = [a, b, c, d, e] ∧ F a b c d e H Q E
section
variable {H : Hp} {Q : VK} {E : XK} {a b c d e : V}
theorem g_on1 {F : V → Hp → VK → XK → Prop} (q : F a H Q E) : on1 F ([a] ++ []) H Q E := ⟨a, rfl, q⟩
theorem g_on2 {F : V → V → Hp → VK → XK → Prop} (q : F a b H Q E) : on2 F ([a, b] ++ []) H Q E := ⟨a, b, rfl, q⟩
theorem g_on3 {F : V → V → V → Hp → VK → XK → Prop} (q : F a b c H Q E) : on3 F ([a, b, c] ++ []) H Q E := ⟨a, b, c, rfl, q⟩
theorem g_on4 {F : V → V → V → V → Hp → VK → XK → Prop} (q : F a b c d H Q E) : on4 F ([a, b, c, d] ++ []) H Q E := ⟨a, b, c, d, rfl, q⟩
end
/-! ### what stands where -/
section
variable {K : PySem.W.Frag} {H H1 : Hp} {a p : Addr} {o u : HO} {xs : List V}
theorem lk_new (h : H a = some o) (hp : H p = none) : upd H p u a = some o := by rw [upd_ne (ne_of_none h hp)]; exact h
theorem lk_mut (hn : a ≠ p) (h : H a = some o) : upd H p u a = some o := by rw [upd_ne hn]; exact h
theorem sq_new (h : SqL K H a xs) (hp : H p = none) : SqL K (upd H p u) a xs := by
  rcases h with (h | ⟨v, h⟩) | h
  · exact .inl (.inl (lk_new h hp))
  · exact .inl (.inr ⟨v, lk_new h hp⟩)
  · exact .inr h
theorem sq_mut (hn : a ≠ p) (h : SqL K H a xs) : SqL K (upd H p u) a xs := by
  rcases h with (h | ⟨v, h⟩) | h
  · exact .inl (.inl (lk_mut hn h))
  · exact .inl (.inr ⟨v, lk_mut hn h⟩)
  · exact .inr h
theorem st_new (h : SqT K H a xs) (hp : H p = none) : SqT K (upd H p u) a xs := by
  rcases h with (h | ⟨v, h⟩) | h
  · exact .inl (.inl (lk_new h hp))
  · exact .inl (.inr ⟨v, lk_new h hp⟩)
  · exact .inr h
theorem st_mut (hn : a ≠ p) (h : SqT K H a xs) : SqT K (upd H p u) a xs := by
  rcases h with (h | ⟨v, h⟩) | h
  · exact .inl (.inl (lk_mut hn h))
  · exact .inl (.inr ⟨v, lk_mut hn h⟩)
  · exact .inr h
theorem sq_of (h : H a = some (.lst xs)) : SqL K H a xs := .inl (.inl h)
theorem stt_of (h : H a = some (.tup xs)) : SqT K H a xs := .inl (.inl h)
theorem Same.tup (e : Same H H1) (h : SqT K H a xs) : SqT K H1 a xs := by
  rcases h with (h | ⟨v, h⟩) | h
  · exact .inl (.inl (e _ _ h))
  · exact .inl (.inr ⟨v, e _ _ h⟩)
  · exact .inr h
theorem same_new (e : Same H H1) (hp : H1 p = none) : Same H (upd H1 p u) := fun b x h => lk_new (e b x h) hp
theorem same_mut (e : Same H H1) (hp : H p = none) : Same H (upd H1 p u) := fun b x h => lk_mut (ne_of_none h hp) (e b x h)
/-- a sequence's place is another than a mutable thing's -/
theorem sq_ne (h : SqL K H a xs) (hK : ∀ o, K.lookup a = some o → H p = none → a ≠ p) (hp : H p = none) : a ≠ p := by
  rcases h with (h | ⟨v, h⟩) | ⟨o, _, _, h, _⟩
  · exact ne_of_none h hp
  · exact ne_of_none h hp
  · exact hK o h hp
end
theorem lk_same {H H1 : Hp} {a : Addr} {o : HO} (e : Same H H1) (h : H a = some o) : H1 a = some o := e a o h
theorem lk_newF {H : Hp} {a p : Addr} {o u : HO} (hp : H p = none) (h : H a = some o) : upd H p u a = some o := lk_new h hp
theorem sq_newF {K : PySem.W.Frag} {H : Hp} {a p : Addr} {u : HO} {xs : List V} (hp : H p = none) (h : SqL K H a xs) : SqL K (upd H p u) a xs := sq_new h hp
theorem st_newF {K : PySem.W.Frag} {H : Hp} {a p : Addr} {u : HO} {xs : List V} (hp : H p = none) (h : SqT K H a xs) : SqT K (upd H p u) a xs := st_new h hp
theorem same_newF {H H1 : Hp} {p : Addr} {u : HO} (hp : H1 p = none) (e : Same H H1) : Same H (upd H1 p u) := same_new e hp
theorem same_mutF {H H1 : Hp} {p : Addr} {u : HO} (hp : H p = none) (e : Same H H1) : Same H (upd H1 p u) := same_mut e hp
theorem same_transF {H H1 H2 : Hp} (f : Same H1 H2) (e : Same H H1) : Same H H2 := Same.trans e f
theorem ne_of_noneF {H : Hp} {a p : Addr} {o : HO} (hp : H p = none) (h : H a = some o) : a ≠ p := ne_of_none h hp
theorem lkF {H H1 : Hp} {a : Addr} {o : HO} (h : H a = some o) (e : Same H H1) : H1 a = some o := e a o h
theorem sqF {K : PySem.W.Frag} {H H1 : Hp} {a : Addr} {xs : List V} (h : SqL K H a xs) (e : Same H H1) : SqL K H1 a xs := e.seq h
theorem sqLF {K : PySem.W.Frag} {H H1 : Hp} {a : Addr} {xs : List V} (h : H a = some (.lst xs)) (e : Same H H1) : SqL K H1 a xs := sq_of (e _ _ h)
theorem tqF {K : PySem.W.Frag} {H H1 : Hp} {a : Addr} {xs : List V} (h : SqT K H a xs) (e : Same H H1) : SqT K H1 a xs := Same.tup e h
theorem tqLF {K : PySem.W.Frag} {H H1 : Hp} {a : Addr} {xs : List V} (h : H a = some (.tup xs)) (e : Same H H1) : SqT K H1 a xs := stt_of (e _ _ h)
/-! Fo, loops and comprehensions over ints and over any values. -/
theorem map_at {α : Type} {f : α → V} {ns : List α} {i : Nat} {x : V} (h : (ns.map f)[i]? = some x) : ∃ z, ns[i]? = some z ∧ x = f z := by
  rw [List.getElem?_map] at h
  cases e : ns[i]? with
  | none => rw [e] at h; cases h
  | some z => rw [e] at h; exact ⟨z, rfl, (Option.some.inj h).symm⟩
/-- the loop over an iteration J, from the slots σ and the heap H -/
def forJ (J : It) (g : TG) (tb : TS) (n : St → Hp → Prop) (rt : VK) (σ : St) (H : Hp) : Prop :=
  ∃ W : Nat → Nat → St → Hp → Prop, (∃ m, W 0 m σ H) ∧ ∀ i m σ H, W i m σ H →
    (J.stop i H ∧ n σ H) ∨ (J.go i H ∧ ∃ N : St → Hp → Prop, (∀ σ' H', N σ' H' → ∃ m', m' < m ∧ W (i + 1) m' σ' H') ∧ ∀ x H', J.yld i H x H' → g x σ H' fun σ2 H2 => tb ⟨N, rt, n, N⟩ σ2 H2)
def forLK (K : PySem.W.Frag) (g : TG) (tb : TS) (n : St → Hp → Prop) (rt : VK) (σ : St) (x : V) (H : Hp) : Prop := ∃ a, x = .ref a ∧ (∃ xs, SqL K H a xs) ∧ forJ (Itl K a) g tb n rt σ H
def forTK (K : PySem.W.Frag) (g : TG) (tb : TS) (n : St → Hp → Prop) (rt : VK) (σ : St) (x : V) (H : Hp) : Prop := ∃ a, x = .ref a ∧ (∃ xs, SqT K H a xs) ∧ forJ (Itt K a) g tb n rt σ H
def forR1K (g : TG) (tb : TS) (n : St → Hp → Prop) (rt : VK) (σ : St) (vs : List V) (H : Hp) : Prop := ∃ j : Int, vs = [.int j] ∧ -(2 ^ 62) ≤ j ∧ j < 2 ^ 62 ∧ forJ (Itr 0 j.toNat) g tb n rt σ H
def forR2K (g : TG) (tb : TS) (n : St → Hp → Prop) (rt : VK) (σ : St) (vs : List V) (H : Hp) : Prop :=
  ∃ i j : Int, vs = [.int i, .int j] ∧ (-(2 ^ 62) ≤ i ∧ i < 2 ^ 62 ∧ -(2 ^ 62) ≤ j ∧ j < 2 ^ 62) ∧ forJ (Itr i (j - i).toNat) g tb n rt σ H
section
variable {K : PySem.W.Frag} {σ σ' : St} {H H' : Hp} {Q : VK} {te te0 : TE} {ta : TA} {tb : TS} {g : TG} {m : Nat} {n : St → Hp → Prop} {rt : VK} {bk ct : St → Hp → Prop} {a : Addr} {xs : List V} {i j : Int}
theorem g_forL (q : te σ H fun x H1 => forLK K g tb n rt σ x H1) : tFor (iList K te) g tb ⟨n, rt, bk, ct⟩ σ H := q
theorem g_forT (q : te σ H fun x H1 => forTK K g tb n rt σ x H1) : tFor (iTup K te) g tb ⟨n, rt, bk, ct⟩ σ H := q
theorem g_forR1 (q : ta σ H fun vs H1 => forR1K g tb n rt σ vs H1) : tFor (iRng1 ta) g tb ⟨n, rt, bk, ct⟩ σ H := q
theorem g_forR2 (q : ta σ H fun vs H1 => forR2K g tb n rt σ vs H1) : tFor (iRng2 ta) g tb ⟨n, rt, bk, ct⟩ σ H := q
theorem for_L (hs : SqL K H a xs) (Pv : Nat → St → Hp → Prop) (h0 : Pv 0 σ H) (hl : ∀ i σ H, Pv i σ H → SqL K H a xs)
    (ht : ∀ i x σ H, xs[i]? = some x → Pv i σ H → g x σ H fun σ2 H2 => tb ⟨Pv (i + 1), rt, n, Pv (i + 1)⟩ σ2 H2) (hd : ∀ σ H, Pv xs.length σ H → n σ H) : forLK K g tb n rt σ (.ref a) H :=
  ⟨a, rfl, ⟨xs, hs⟩, for_list (D := ⟨n, rt, fun _ _ => False, fun _ _ => False⟩) Pv h0 (fun i σ H _ p => hl i σ H p) ht hd⟩
theorem for_T (hs : SqT K H a xs) (Pv : Nat → St → Hp → Prop) (h0 : Pv 0 σ H) (hl : ∀ i σ H, Pv i σ H → SqT K H a xs)
    (ht : ∀ i x σ H, xs[i]? = some x → Pv i σ H → g x σ H fun σ2 H2 => tb ⟨Pv (i + 1), rt, n, Pv (i + 1)⟩ σ2 H2) (hd : ∀ σ H, Pv xs.length σ H → n σ H) : forTK K g tb n rt σ (.ref a) H :=
  ⟨a, rfl, ⟨xs, hs⟩, for_tup (D := ⟨n, rt, fun _ _ => False, fun _ _ => False⟩) Pv h0 (fun i σ H _ p => hl i σ H p) ht hd⟩
/-- over ints, to one name -/
theorem for_LI {ns : List Int} (hs : SqL K H a (ns.map V.int)) (Pv : Nat → St → Hp → Prop) (h0 : Pv 0 σ H) (hl : ∀ i σ H, Pv i σ H → SqL K H a (ns.map V.int))
    (ht : ∀ i z σ H, ns[i]? = some z → Pv i σ H → asgn m (fun σ2 H2 => tb ⟨Pv (i + 1), rt, n, Pv (i + 1)⟩ σ2 H2) (.int z) σ H) (hd : ∀ σ H, Pv ns.length σ H → n σ H) : forLK K (gName m) tb n rt σ (.ref a) H := by
  refine for_L hs Pv h0 hl (fun i x σ H hx p => ?_) fun σ H p => hd σ H (by rw [List.length_map] at p; exact p)
  obtain ⟨z, hz, rfl⟩ := map_at hx
  exact ht i z σ H hz p
theorem for_TI {ns : List Int} (hs : SqT K H a (ns.map V.int)) (Pv : Nat → St → Hp → Prop) (h0 : Pv 0 σ H) (hl : ∀ i σ H, Pv i σ H → SqT K H a (ns.map V.int))
    (ht : ∀ i z σ H, ns[i]? = some z → Pv i σ H → asgn m (fun σ2 H2 => tb ⟨Pv (i + 1), rt, n, Pv (i + 1)⟩ σ2 H2) (.int z) σ H) (hd : ∀ σ H, Pv ns.length σ H → n σ H) : forTK K (gName m) tb n rt σ (.ref a) H := by
  refine for_T hs Pv h0 hl (fun i x σ H hx p => ?_) fun σ H p => hd σ H (by rw [List.length_map] at p; exact p)
  obtain ⟨z, hz, rfl⟩ := map_at hx
  exact ht i z σ H hz p
theorem for_R1 {k : Nat} (hk : j = (k : Int)) (hb : k < 2 ^ 62) (Pv : Nat → St → Hp → Prop) (h0 : Pv 0 σ H)
    (ht : ∀ (i : Nat) σ H, i < k → Pv i σ H → asgn m (fun σ2 H2 => tb ⟨Pv (i + 1), rt, n, Pv (i + 1)⟩ σ2 H2) (.int (i : Int)) σ H) (hd : ∀ σ H, Pv k σ H → n σ H) : forR1K (gName m) tb n rt σ [.int j] H := by
  subst hk
  refine ⟨k, rfl, by omega, by omega, for_range (D := ⟨n, rt, fun _ _ => False, fun _ _ => False⟩) Pv h0 (fun i σ H hi p => ?_) fun σ H p => hd σ H (by simpa using p)⟩
  have e : (0 : Int) + (i : Int) = (i : Int) := by omega
  rw [e]
  exact ht i σ H (by simpa using hi) p
theorem for_R2 {k : Nat} (hk : (j - i).toNat = k) (hb : -(2 ^ 62) ≤ i ∧ i < 2 ^ 62 ∧ -(2 ^ 62) ≤ j ∧ j < 2 ^ 62) (Pv : Nat → St → Hp → Prop) (h0 : Pv 0 σ H)
    (ht : ∀ (l : Nat) σ H, l < k → Pv l σ H → asgn m (fun σ2 H2 => tb ⟨Pv (l + 1), rt, n, Pv (l + 1)⟩ σ2 H2) (.int (i + (l : Int))) σ H) (hd : ∀ σ H, Pv k σ H → n σ H) : forR2K (gName m) tb n rt σ [.int i, .int j] H := by
  subst hk
  exact ⟨i, j, rfl, hb, for_range (D := ⟨n, rt, fun _ _ => False, fun _ _ => False⟩) Pv h0 (fun l σ H hi p => ht l σ H hi p) fun σ H p => hd σ H p⟩
/-! ### comprehensions -/
def lcJ (J : It) (g : TG) (tt : TT) (te : TE) (vs : List Nat) (σ : St) (H1 : Hp) (Q : VK) : Prop :=
  ∀ D, H1 D = none → ∃ W : Nat → Nat → Hp → Prop, (∃ m, W 0 m (upd H1 D (.lst []))) ∧ ∀ i m H, W i m H →
  (J.stop i H ∧ Q (.ref D) H) ∨ (J.go i H ∧ ∃ Nx : Hp → Prop, (∀ H', Nx H' → ∃ m', m' < m ∧ W (i + 1) m' H') ∧ ∀ x H', J.yld i H x H' → g x (wipe σ vs) H' fun σ2 H2 => wipe σ2 vs = wipe σ vs ∧ tt σ2 H2 fun b H3 =>
    if b = true then te σ2 H3 fun y H4 => ∃ acc, H4 D = some (.lst acc) ∧ acc.length < sizeLine ∧ Nx (upd H4 D (.lst (acc ++ [y]))) else Nx H3)
def lcLK (K : PySem.W.Frag) (g : TG) (tt : TT) (te : TE) (vs : List Nat) (σ : St) (x : V) (H : Hp) (Q : VK) : Prop := ∃ a, x = .ref a ∧ (∃ xs, SqL K H a xs) ∧ lcJ (Itl K a) g tt te vs σ H Q
def lcTK (K : PySem.W.Frag) (g : TG) (tt : TT) (te : TE) (vs : List Nat) (σ : St) (x : V) (H : Hp) (Q : VK) : Prop := ∃ a, x = .ref a ∧ (∃ xs, SqT K H a xs) ∧ lcJ (Itt K a) g tt te vs σ H Q
def lcR1K (g : TG) (tt : TT) (te : TE) (vs : List Nat) (σ : St) (us : List V) (H : Hp) (Q : VK) : Prop := ∃ j : Int, us = [.int j] ∧ -(2 ^ 62) ≤ j ∧ j < 2 ^ 62 ∧ lcJ (Itr 0 j.toNat) g tt te vs σ H Q
theorem g_lcL {tt : TT} {vs : List Nat} (q : te0 σ H fun x H1 => lcLK K g tt te vs σ x H1 Q) : tLc (iList K te0) g tt te vs σ H Q := q
theorem g_lcT {tt : TT} {vs : List Nat} (q : te0 σ H fun x H1 => lcTK K g tt te vs σ x H1 Q) : tLc (iTup K te0) g tt te vs σ H Q := q
theorem g_lcR1 {tt : TT} {vs : List Nat} (q : ta σ H fun us H1 => lcR1K g tt te vs σ us H1 Q) : tLc (iRng1 ta) g tt te vs σ H Q := q
/-- each item's value y: f x. What the elements lay down besides stands behind -/
def eachK (te : TE) (m : Nat) (σ : St) (H1 : Hp) (D : Addr) (x y : V) : Prop :=
  ∀ H2 Q, Same H1 H2 → (∀ H3, Same H2 H3 → Q y H3) → asgn m (fun σ2 H2 => te σ2 H2 Q) x (σ.set m none) H2
theorem wipe1 (x : Option V) : wipe (((wipe σ [m])).set m x) [m] = wipe σ [m] := by
  show ((((σ.set m none)).set m x).set m none) = σ.set m none
  rw [List.set_set, List.set_set]
theorem lc_each (xs : List V) (f : V → V) (J : It) (hg : ∀ i H, i < xs.length → Same H' H → J.go i H) (hy : ∀ i H x H2, i < xs.length → Same H' H → J.yld i H x H2 → H2 = H ∧ xs[i]? = some x) (hs : ∀ H, Same H' H → J.stop xs.length H) (hl : xs.length ≤ 1000000)
    (he : ∀ x, x ∈ xs → ∀ D, eachK te m σ H' D x (f x)) (hq : ∀ D H3, H' D = none → Same H' H3 → H3 D = some (.lst (xs.map f)) → Q (.ref D) H3) : lcJ J (gName m) tYes te [m] σ H' Q := by
  intro D hD
  refine ⟨fun i k H => k = xs.length - i ∧ i ≤ xs.length ∧ Same H' H ∧ H D = some (.lst ((xs.take i).map f)), ⟨xs.length, rfl, Nat.zero_le _, same_new (Same.refl _) hD, upd_same⟩, ?_⟩
  rintro i k H ⟨rfl, hi, s, e⟩
  by_cases hlt : i < xs.length
  · refine .inr ⟨hg i H hlt s, fun H2 => Same H' H2 ∧ H2 D = some (.lst ((xs.take (i + 1)).map f)), fun H2 p => ⟨xs.length - (i + 1), by omega, rfl, hlt, p⟩, fun x H2 hx => ?_⟩
    obtain ⟨rfl, ex⟩ := hy i H x H2 hlt s hx
    have hm : x ∈ xs := List.mem_of_getElem? ex
    refine ⟨wipe1 _, ?_⟩
    have yes : ∀ {A B : Prop}, A → if true = true then A else B := fun h => iteT h
    refine yes (B := ((fun H2 => Same H' H2 ∧ H2 D = some (HO.lst ((xs.take (i + 1)).map f))) H2)) ?_
    refine he x hm D H2 _ s fun H3 s3 => ⟨(xs.take i).map f, s3 _ _ e, ?_, same_mut (Same.trans s s3) hD, ?_⟩
    · rw [List.length_map, List.length_take]
      exact Nat.lt_of_le_of_lt (Nat.le_trans (Nat.min_le_right _ _) hl) (by decide)
    · rw [upd_same, List.take_add_one, ex, List.map_append]
      rfl
  · have e1 : i = xs.length := by omega
    subst e1
    rw [List.take_length] at e
    exact .inl ⟨hs H s, hq D H hD s e⟩
theorem lc_L (hs : SqL K H a xs) (f : V → V) (hl : xs.length ≤ 1000000) (he : ∀ x, x ∈ xs → ∀ D, eachK te m σ H D x (f x)) (hq : ∀ D H3, H D = none → Same H H3 → H3 D = some (.lst (xs.map f)) → Q (.ref D) H3) :
    lcLK K (gName m) tYes te [m] σ (.ref a) H Q :=
  ⟨a, rfl, ⟨xs, hs⟩, lc_each xs f (Itl K a) (fun i H hi s => ⟨xs, xs[i], s.seq hs, List.getElem?_eq_getElem hi⟩) (fun i H x H2 _ s y => ⟨y.1, y.2 xs (s.seq hs)⟩) (fun H s => ⟨xs, s.seq hs, Nat.le_refl _⟩) hl he hq⟩
theorem lc_T (hs : SqT K H a xs) (f : V → V) (hl : xs.length ≤ 1000000) (he : ∀ x, x ∈ xs → ∀ D, eachK te m σ H D x (f x)) (hq : ∀ D H3, H D = none → Same H H3 → H3 D = some (.lst (xs.map f)) → Q (.ref D) H3) :
    lcTK K (gName m) tYes te [m] σ (.ref a) H Q :=
  ⟨a, rfl, ⟨xs, hs⟩, lc_each xs f (Itt K a) (fun i H hi s => ⟨xs, xs[i], Fo.Same.tup s hs, List.getElem?_eq_getElem hi⟩) (fun i H x H2 _ s y => ⟨y.1, y.2 xs (Fo.Same.tup s hs)⟩) (fun H s => ⟨xs, Fo.Same.tup s hs, Nat.le_refl _⟩) hl he hq⟩
/-- ints to anything -/
theorem lc_LI {ns : List Int} (hs : SqL K H a (ns.map V.int)) (f : Int → V) (hl : ns.length ≤ 1000000) (he : ∀ z, z ∈ ns → ∀ D, eachK te m σ H D (.int z) (f z)) (hq : ∀ D H3, H D = none → Same H H3 → H3 D = some (.lst (ns.map f)) → Q (.ref D) H3) :
    lcLK K (gName m) tYes te [m] σ (.ref a) H Q := by
  have key : (ns.map V.int).map (fun v => match v with | .int z => f z | _ => .non) = ns.map f := by rw [List.map_map]; rfl
  refine lc_L hs (fun v => match v with | .int z => f z | _ => .non) (by rw [List.length_map]; exact hl) (fun x hx D => ?_) (by rw [key]; exact hq)
  obtain ⟨z, hz, rfl⟩ := List.mem_map.mp hx
  exact he z hz D
theorem lc_TI {ns : List Int} (hs : SqT K H a (ns.map V.int)) (f : Int → V) (hl : ns.length ≤ 1000000) (he : ∀ z, z ∈ ns → ∀ D, eachK te m σ H D (.int z) (f z)) (hq : ∀ D H3, H D = none → Same H H3 → H3 D = some (.lst (ns.map f)) → Q (.ref D) H3) :
    lcTK K (gName m) tYes te [m] σ (.ref a) H Q := by
  have key : (ns.map V.int).map (fun v => match v with | .int z => f z | _ => .non) = ns.map f := by rw [List.map_map]; rfl
  refine lc_T hs (fun v => match v with | .int z => f z | _ => .non) (by rw [List.length_map]; exact hl) (fun x hx D => ?_) (by rw [key]; exact hq)
  obtain ⟨z, hz, rfl⟩ := List.mem_map.mp hx
  exact he z hz D
theorem lc_R1 {k : Nat} (hk : j = (k : Int)) (f : Nat → V) (hl : k ≤ 1000000) (he : ∀ i, i < k → ∀ D, eachK te m σ H D (.int (i : Int)) (f i)) (hq : ∀ D H3, H D = none → Same H H3 → H3 D = some (.lst ((List.range k).map f)) → Q (.ref D) H3) :
    lcR1K (gName m) tYes te [m] σ [.int j] H Q := by
  subst hk
  have key : ((List.range k).map fun (i : Nat) => V.int (i : Int)).map (fun v => match v with | .int z => f z.toNat | _ => .non) = (List.range k).map f := by rw [List.map_map]; rfl
  have len : ((List.range k).map fun (i : Nat) => V.int (i : Int)).length = k := by simp
  refine ⟨k, rfl, by omega, by omega, lc_each ((List.range k).map fun (i : Nat) => V.int (i : Int)) (fun v => match v with | .int z => f z.toNat | _ => .non) (Itr 0 (k : Int).toNat) (fun i H hi s => ?_) (fun i H x H2 hi s y => ?_) (fun H s => ?_) (by rw [len]; exact hl) (fun x hx D => ?_) (by rw [key]; exact hq)⟩
  · rw [len] at hi
    show i < (k : Int).toNat
    simpa using hi
  · obtain ⟨rfl, rfl⟩ := y
    rw [len] at hi
    refine ⟨rfl, ?_⟩
    rw [List.getElem?_map, List.getElem?_range hi]
    show some (V.int (i : Int)) = some (V.int (0 + (i : Int)))
    rw [Int.zero_add]
  · rw [len]
    show (k : Int).toNat ≤ k
    simp
  · obtain ⟨i, hi, rfl⟩ := List.mem_map.mp hx
    exact he i (by simpa using hi) D
end
/-! Fo, data as a whole: == of lists, tuples, texts and ints at any depth below 60, no truths within. -/
mutual
def clean : PyData → Bool
  | .none => true
  | .bool _ => false
  | .int _ => true
  | .str _ => true
  | .list xs => cleanAll xs
  | .tuple xs => cleanAll xs
  | .dict _ => false
def cleanAll : List PyData → Bool
  | [] => true
  | x :: xs => clean x && cleanAll xs
end
mutual
theorem eqv_is : ∀ d e : PyData, clean d = true → clean e = true → (PyData.eqv d e = true ↔ d = e)
  | .none, e, h, h' => by cases e <;> simp [PyData.eqv]
  | .bool b, e, h, h' => by simp [clean] at h
  | .int i, e, h, h' => by cases e <;> simp [PyData.eqv, clean] at h' ⊢
  | .str z, e, h, h' => by cases e <;> simp [PyData.eqv]
  | .list xs, e, h, h' => by
    cases e with
    | list ys =>
      simp only [clean] at h h'
      simp only [PyData.eqv, PyData.list.injEq]
      exact eqvAll_is xs ys h h'
    | _ => simp [PyData.eqv]
  | .tuple xs, e, h, h' => by
    cases e with
    | tuple ys =>
      simp only [clean] at h h'
      simp only [PyData.eqv, PyData.tuple.injEq]
      exact eqvAll_is xs ys h h'
    | _ => simp [PyData.eqv]
  | .dict _, e, h, h' => by simp [clean] at h
theorem eqvAll_is : ∀ xs ys : List PyData, cleanAll xs = true → cleanAll ys = true → (PyData.eqvAll xs ys = true ↔ xs = ys)
  | [], [], _, _ => by simp [PyData.eqvAll]
  | [], _ :: _, _, _ => by simp [PyData.eqvAll]
  | _ :: _, [], _, _ => by simp [PyData.eqvAll]
  | x :: xs, y :: ys, h, h' => by
    simp only [cleanAll, Bool.and_eq_true] at h h'
    simp only [PyData.eqvAll, Bool.and_eq_true, List.cons.injEq]
    rw [eqv_is x y h.1 h'.1, eqvAll_is xs ys h.2 h'.2]
end
/-- data that == compares as they stand -/
structure Okd (n : Nat) (d : PyData) : Prop where
  lay : d.canLay0 = true
  cl : clean d = true
  dp : d.depth ≤ n
theorem okd_non {n : Nat} : Okd n .none := ⟨rfl, by simp [clean], by simp [PyData.depth]⟩
theorem okd_int {n : Nat} {i : Int} : Okd n (.int i) := ⟨rfl, by simp [clean], by simp [PyData.depth]⟩
theorem okd_str {n : Nat} {z : Str} (h : PyData.strOk z = true) : Okd n (.str z) := ⟨by simpa [PyData.canLay0] using h, by simp [clean], by simp [PyData.depth]⟩
theorem okd_all {n : Nat} : ∀ {ds : List PyData}, (∀ d ∈ ds, Okd n d) → PyData.canLayAll0 ds = true ∧ cleanAll ds = true ∧ PyData.depthAll ds ≤ n
  | [], _ => by simp [PyData.canLayAll0, cleanAll, PyData.depthAll]
  | d :: ds, h => by
    obtain ⟨a, b, c⟩ := okd_all (ds := ds) fun e he => h e (List.mem_cons_of_mem _ he)
    have k := h d List.mem_cons_self
    refine ⟨?_, ?_, ?_⟩
    · simp [PyData.canLayAll0, k.lay, a]
    · simp [cleanAll, k.cl, b]
    · simp only [PyData.depthAll]
      have := k.dp
      omega
theorem okd_lst {n : Nat} {ds : List PyData} (h : ∀ d ∈ ds, Okd n d) : Okd (n + 1) (.list ds) := by
  obtain ⟨a, b, c⟩ := okd_all h
  exact ⟨by simpa [PyData.canLay0] using a, by simpa [clean] using b, by simp only [PyData.depth]; omega⟩
theorem okd_tup {n : Nat} {ds : List PyData} (h : ∀ d ∈ ds, Okd n d) : Okd (n + 1) (.tuple ds) := by
  obtain ⟨a, b, c⟩ := okd_all h
  exact ⟨by simpa [PyData.canLay0] using a, by simpa [clean] using b, by simp only [PyData.depth]; omega⟩
theorem okd_ints {n : Nat} {ns : List Int} : ∀ d ∈ ns.map PyData.int, Okd n d := fun d h => by
  obtain ⟨i, _, rfl⟩ := List.mem_map.mp h
  exact okd_int
theorem Okd.shaped {n : Nat} {d : PyData} (h : Okd n d) (hn : n ≤ 64) : SeqAt.shaped d = true := by
  unfold SeqAt.shaped
  rw [h.lay, Bool.true_and]
  exact decide_eq_true (Nat.le_trans h.dp hn)
section
variable {K : PySem.W.Frag} {H : Hp} {Q : VK} {x y : V} {d e : PyData} {n m : Nat} {b : Bool} {p q : Addr}
theorem g_sameD (hx : Dp K H x d) (hy : Dp K H y e) (od : Okd n d) (oe : Okd m e) (hn : n ≤ 64) (hm : m ≤ 64) (hb : b = true ↔ d = e) (k : Q (.bl b) H) : rSame K x y H Q := by
  refine .inr ⟨d, e, hx, hy, od.shaped hn, oe.shaped hm, ?_⟩
  have z : PyData.eqv d e = b := by
    rw [Bool.eq_iff_iff, eqv_is d e od.cl oe.cl, hb]
  rw [z]
  exact k
theorem g_diffD (hx : Dp K H x d) (hy : Dp K H y e) (od : Okd n d) (oe : Okd m e) (hn : n ≤ 64) (hm : m ≤ 64) (hb : b = true ↔ d = e) (k : Q (.bl (!b)) H) : rDiff K x y H Q := by
  refine .inr ⟨d, e, hx, hy, od.shaped hn, oe.shaped hm, ?_⟩
  have z : PyData.eqv d e = b := by
    rw [Bool.eq_iff_iff, eqv_is d e od.cl oe.cl, hb]
  rw [z]
  exact k
theorem dpAll_ints : ∀ {ns : List Int}, DpAll K H (ns.map V.int) (ns.map PyData.int)
  | [] => .nil
  | i :: ns => .cons (.int i) (dpAll_ints (ns := ns))
theorem map_int_inj {ns ms : List Int} : ns.map PyData.int = ms.map PyData.int ↔ ns = ms := by
  constructor
  · intro h
    induction ns generalizing ms with
    | nil => cases ms with
      | nil => rfl
      | cons => cases h
    | cons i ns ih => cases ms with
      | nil => cases h
      | cons j ms =>
        simp only [List.map_cons, List.cons.injEq, PyData.int.injEq] at h
        rw [h.1, ih h.2]
  · intro h; rw [h]
theorem g_sameLI {ns ms : List Int} (hx : SqL K H p (ns.map V.int)) (hy : SqL K H q (ms.map V.int)) (k : Q (.bl (decide (ns = ms))) H) : rSame K (.ref p) (.ref q) H Q :=
  g_sameD (n := 1) (m := 1) (.lst hx dpAll_ints) (.lst hy dpAll_ints) (okd_lst okd_ints) (okd_lst okd_ints) (by decide) (by decide) (by rw [decide_eq_true_iff, PyData.list.injEq, map_int_inj]) k
theorem g_diffLI {ns ms : List Int} (hx : SqL K H p (ns.map V.int)) (hy : SqL K H q (ms.map V.int)) (k : Q (.bl (!decide (ns = ms))) H) : rDiff K (.ref p) (.ref q) H Q :=
  g_diffD (n := 1) (m := 1) (.lst hx dpAll_ints) (.lst hy dpAll_ints) (okd_lst okd_ints) (okd_lst okd_ints) (by decide) (by decide) (by rw [decide_eq_true_iff, PyData.list.injEq, map_int_inj]) k
theorem g_sameTI {ns ms : List Int} (hx : SqT K H p (ns.map V.int)) (hy : SqT K H q (ms.map V.int)) (k : Q (.bl (decide (ns = ms))) H) : rSame K (.ref p) (.ref q) H Q :=
  g_sameD (n := 1) (m := 1) (.tup hx dpAll_ints) (.tup hy dpAll_ints) (okd_tup okd_ints) (okd_tup okd_ints) (by decide) (by decide) (by rw [decide_eq_true_iff, PyData.tuple.injEq, map_int_inj]) k
theorem g_diffTI {ns ms : List Int} (hx : SqT K H p (ns.map V.int)) (hy : SqT K H q (ms.map V.int)) (k : Q (.bl (!decide (ns = ms))) H) : rDiff K (.ref p) (.ref q) H Q :=
  g_diffD (n := 1) (m := 1) (.tup hx dpAll_ints) (.tup hy dpAll_ints) (okd_tup okd_ints) (okd_tup okd_ints) (by decide) (by decide) (by rw [decide_eq_true_iff, PyData.tuple.injEq, map_int_inj]) k
end
/-! ### slices of lists of anything -/
def cutL {α : Type} (xs : List α) (lo hi : Option Int) : List α := (xs.drop (HT.sIx xs.length 0 lo)).take (HT.sIx xs.length xs.length hi - HT.sIx xs.length 0 lo)
theorem cutV_map {α : Type} (f : α → V) (xs : List α) (lo hi : Option Int) : cutV (xs.map f) lo hi = (cutL xs lo hi).map f := by
  unfold cutV cutL
  rw [List.length_map, ← List.map_drop, ← List.map_take]
theorem cutL_len {α : Type} (xs : List α) (lo hi : Option Int) : (cutL xs lo hi).length ≤ xs.length := by
  unfold cutL
  rw [List.length_take, List.length_drop]
  omega
theorem cutL_sub {α : Type} (xs : List α) (lo hi : Option Int) {x : α} (h : x ∈ cutL xs lo hi) : x ∈ xs := List.mem_of_mem_drop (List.mem_of_mem_take h)
theorem cutL_to {α : Type} (xs : List α) (k : Nat) : cutL xs none (some (k : Int)) = xs.take k := by
  unfold cutL
  rw [HT.sIx_none, HT.sIx_nat]
  show List.take (min k xs.length - 0) xs = xs.take k
  rw [Nat.sub_zero, List.take_eq_take_iff]
  omega
theorem cutL_from {α : Type} (xs : List α) (k : Nat) : cutL xs (some (k : Int)) none = xs.drop k := by
  unfold cutL
  rw [HT.sIx_none, HT.sIx_nat]
  by_cases h : k ≤ xs.length
  · rw [Nat.min_eq_left h, List.take_of_length_le]
    rw [List.length_drop]
    omega
  · have e : min k xs.length = xs.length := by omega
    rw [e, List.drop_of_length_le (Nat.le_refl _), List.drop_of_length_le (by omega)]
    simp
theorem cutL_both {α : Type} (xs : List α) (i j : Nat) : cutL xs (some (i : Int)) (some (j : Int)) = (xs.drop i).take (j - i) := by
  unfold cutL
  rw [HT.sIx_nat, HT.sIx_nat]
  by_cases h : i ≤ xs.length
  · rw [Nat.min_eq_left h, List.take_eq_take_iff, List.length_drop]
    omega
  · have e : min i xs.length = xs.length := by omega
    rw [e, List.drop_of_length_le (Nat.le_refl _), List.drop_of_length_le (by omega)]
    simp
theorem cutL_butlast {α : Type} (xs : List α) : cutL xs none (some (-1)) = xs.dropLast := by
  unfold cutL
  rw [HT.sIx_none]
  show List.take (HT.sIx xs.length xs.length (some (-1)) - 0) xs = _
  rw [Nat.sub_zero, List.dropLast_eq_take]
  congr 1
  show (if (-1 : Int) < 0 then ((-1 : Int) + (xs.length : Int)).toNat else min (-1 : Int).toNat xs.length) = xs.length - 1
  rw [if_pos (by decide)]
  omega
theorem g_sameB {K : PySem.W.Frag} {H : Hp} {Q : VK} {p r : Addr} {bs cs : List Bool} {b : Bool} (hx : SqL K H p (bs.map V.bl)) (hy : SqL K H r (cs.map V.bl)) (s1 : SeqAt.shaped (.list (bs.map PyData.bool)) = true) (s2 : SeqAt.shaped (.list (cs.map PyData.bool)) = true)
    (h : PyData.eqv (.list (bs.map PyData.bool)) (.list (cs.map PyData.bool)) = b) (q : Q (.bl b) H) : rSame K (.ref p) (.ref r) H Q := by
  have dp : ∀ bs : List Bool, DpAll K H (bs.map V.bl) (bs.map PyData.bool) := fun bs => by
    induction bs with
    | nil => exact .nil
    | cons b bs ih => exact .cons (.bl b) ih
  exact .inr ⟨_, _, .lst hx (dp bs), .lst hy (dp cs), s1, s2, by rw [h]; exact q⟩
theorem g_diffB {K : PySem.W.Frag} {H : Hp} {Q : VK} {p r : Addr} {bs cs : List Bool} {b : Bool} (hx : SqL K H p (bs.map V.bl)) (hy : SqL K H r (cs.map V.bl)) (s1 : SeqAt.shaped (.list (bs.map PyData.bool)) = true) (s2 : SeqAt.shaped (.list (cs.map PyData.bool)) = true)
    (h : PyData.eqv (.list (bs.map PyData.bool)) (.list (cs.map PyData.bool)) = b) (q : Q (.bl (!b)) H) : rDiff K (.ref p) (.ref r) H Q := by
  have dp : ∀ bs : List Bool, DpAll K H (bs.map V.bl) (bs.map PyData.bool) := fun bs => by
    induction bs with
    | nil => exact .nil
    | cons b bs ih => exact .cons (.bl b) ih
  exact .inr ⟨_, _, .lst hx (dp bs), .lst hy (dp cs), s1, s2, by rw [h]; exact q⟩
/-! Fo, objects: fields of own classes, calls of methods, what stays when some things change. -/
class HasCls (K : PySem.W.Frag) (C : Str) : Prop where h : Cls K (He.ga K C)
class HasNo (K : PySem.W.Frag) (C f : Str) : Prop where h : NoAttr K (He.ga K C) f
/-- all but what M names stays; nothing goes -/
structure SameX (M : Addr → Prop) (H H1 : Hp) : Prop where
  kp : ∀ b o, ¬ M b → H b = some o → H1 b = some o
  dm : ∀ b, H1 b = none → H b = none
theorem upd_none {H : Hp} {a b : Addr} {o : HO} (h : upd H a o b = none) : H b = none := by
  by_cases e : b = a
  · rw [e, upd_same] at h; cases h
  · rw [upd_ne e] at h; exact h
theorem upd_upd {H : Hp} {a : Addr} {o u : HO} : upd (upd H a o) a u = upd H a u := by
  funext b
  by_cases e : b = a
  · rw [e, upd_same, upd_same]
  · rw [upd_ne e, upd_ne e, upd_ne e]
theorem SameX.refl {M : Addr → Prop} (H : Hp) : SameX M H H := ⟨fun _ _ _ h => h, fun _ h => h⟩
theorem SameX.of {M : Addr → Prop} {H H1 : Hp} (s : Same H H1) : SameX M H H1 := ⟨fun b o _ h => s b o h, fun _ h => s.free h⟩
theorem SameX.trans {M : Addr → Prop} {H H1 H2 : Hp} (s : SameX M H H1) (t : SameX M H1 H2) : SameX M H H2 := ⟨fun b o n h => t.kp b o n (s.kp b o n h), fun b h => s.dm b (t.dm b h)⟩
theorem SameX.mono {M N : Addr → Prop} {H H1 : Hp} (s : SameX M H H1) (h : ∀ b, M b → N b) : SameX N H H1 := ⟨fun b o n e => s.kp b o (fun m => n (h b m)) e, s.dm⟩
/-- what M names besides was not there -/
theorem SameX.mono' {M N : Addr → Prop} {H H1 : Hp} (s : SameX M H H1) (h : ∀ b, M b → H b ≠ none → N b) : SameX N H H1 := ⟨fun b o n e => s.kp b o (fun m => n (h b m (by rw [e]; exact fun z => nomatch z))) e, s.dm⟩
theorem SameX.mut {M : Addr → Prop} {H H1 : Hp} {a : Addr} {o : HO} (s : SameX M H H1) (h : M a) : SameX M H (upd H1 a o) :=
  ⟨fun b u n e => by rw [upd_ne (fun z : b = a => n (by rw [z]; exact h))]; exact s.kp b u n e, fun b e => s.dm b (upd_none e)⟩
theorem SameX.new {M : Addr → Prop} {H H1 : Hp} {a : Addr} {o : HO} (s : SameX M H H1) (h : H1 a = none) : SameX M H (upd H1 a o) :=
  ⟨fun b u n e => lk_new (s.kp b u n e) h, fun b e => s.dm b (upd_none e)⟩
theorem SameX.newmut {M : Addr → Prop} {H H1 : Hp} {a : Addr} {o : HO} (s : SameX M H H1) (h : H a = none) : SameX M H (upd H1 a o) :=
  ⟨fun b u n e => lk_mut (ne_of_none e h) (s.kp b u n e), fun b e => s.dm b (upd_none e)⟩
theorem SameX.same {H H1 : Hp} (s : SameX (fun _ => False) H H1) : Same H H1 := fun b o h => s.kp b o (fun z => z) h
theorem SameX.lk {M : Addr → Prop} {H H1 : Hp} {a : Addr} {o : HO} (s : SameX M H H1) (n : ¬ M a) (h : H a = some o) : H1 a = some o := s.kp a o n h
theorem SameX.seq {K : PySem.W.Frag} {M : Addr → Prop} {H H1 : Hp} {a : Addr} {xs : List V} (s : SameX M H H1) (n : ¬ M a) (h : SqL K H a xs) : SqL K H1 a xs := by
  rcases h with (h | ⟨v, h⟩) | h
  · exact .inl (.inl (s.kp _ _ n h))
  · exact .inl (.inr ⟨v, s.kp _ _ n h⟩)
  · exact .inr h
theorem SameX.tup {K : PySem.W.Frag} {M : Addr → Prop} {H H1 : Hp} {a : Addr} {xs : List V} (s : SameX M H H1) (n : ¬ M a) (h : SqT K H a xs) : SqT K H1 a xs := by
  rcases h with (h | ⟨v, h⟩) | h
  · exact .inl (.inl (s.kp _ _ n h))
  · exact .inl (.inr ⟨v, s.kp _ _ n h⟩)
  · exact .inr h
/-- what is changed was not there at first -/
theorem SameX.back {M : Addr → Prop} {H H1 H2 : Hp} (s0 : Same H H1) (s : SameX M H1 H2) (h : ∀ b, M b → H b = none) : Same H H2 := fun b o e => s.kp b o (fun m => by rw [h b m] at e; cases e) (s0 b o e)
theorem SameX.back1 {a : Addr} {H H1 H2 : Hp} (s0 : Same H H1) (s : SameX (· = a) H1 H2) (h : H a = none) : Same H H2 := s.back s0 fun b m => by rw [m]; exact h
/-- another kind of thing stands there -/
theorem ne_kind {H : Hp} {a b : Addr} {o u : HO} (h : H a = some o) (k : H b = some u) (d : o ≠ u) : a ≠ b := fun e => d (Option.some.inj (by rw [← h, ← k, e]))
/-! ### fields -/
theorem putF_nil {f : Str} {v : V} : putF f v [] = [(f, v)] := rfl
theorem putF_hit {f : Str} {v u : V} {r : List (Str × V)} : putF f v ((f, u) :: r) = (f, v) :: r := by simp [putF]
theorem putF_far {f g : Str} {v u : V} {r r' : List (Str × V)} (h : g ≠ f) (k : putF f v r = r') : putF f v ((g, u) :: r) = (g, u) :: r' := by
  subst k
  show (if g = f then _ else _) = _
  rw [if_neg h]
def mthK (m : Str) (ms : Addr → Sp → Prop) (x : V) (H : Hp) (A : Sp → Prop) : Prop := ∃ a C dx fs sp, x = .ref a ∧ H a = some (.ins C dx fs) ∧ ms C sp ∧ fs.lookup m = none ∧ A sp
def augK (K : PySem.W.Frag) (tv : TE) (rd : V → V → Hp → VK → Prop) (f : Str) (x : V) (σ : St) (H : Hp) (n : Hp → Prop) : Prop := ∃ a C dx fs v, x = .ref a ∧ H a = some (.ins C dx fs) ∧ Cls K C ∧ NoAttr K C f ∧ fs.lookup f = some v ∧
  tv σ H fun y H2 => rd v y H2 fun z H3 => ∃ dx' fs', H3 a = some (.ins C dx' fs') ∧ fs'.length < 1000 ∧ n (upd H3 a (.ins C dx' (putF f z fs')))
def putK (f : Str) (C a : Addr) (z : V) (H : Hp) (n : Hp → Prop) : Prop := ∃ dx' fs', H a = some (.ins C dx' fs') ∧ fs'.length < 1000 ∧ n (upd H a (.ins C dx' (putF f z fs')))
/-- a turn of a while loop, its measure m -/
def whK (W : Nat → St → Hp → Prop) (m : Nat) (tb : TS) (n : St → Hp → Prop) (rt : VK) (σ : St) (H : Hp) : Prop := ∃ N : St → Hp → Prop, (∀ σ' H', N σ' H' → ∃ m', m' < m ∧ W m' σ' H') ∧ tb ⟨N, rt, n, N⟩ σ H
section
variable {K : PySem.W.Frag} {σ : St} {H H' : Hp} {Q : VK} {te ta tv : TE} {tl : TA} {x y v : V} {i j : Int} {rd : V → V → Hp → VK → Prop}
variable {n : St → Hp → Prop} {nH : Hp → Prop} {rt : VK} {bk ct : St → Hp → Prop} {p dx C' : Addr} {fs fs' : List (Str × V)} {C f m : Str} {sp : Sp}
theorem g_mthd {ms : Addr → Sp → Prop} {E : St → XK} (q : te σ H fun x H1 => mthK m ms x H1 fun sp => tl σ H1 fun vs H2 => sp (x :: vs) H2 Q (E σ)) : tMth m ms E te tl σ H Q := q
theorem g_one {A : Sp → Prop} (h : H p = some (.ins C' dx fs)) (hl : fs.lookup m = none) (q : A sp) : mthK m (one C' sp) (.ref p) H A := ⟨p, C', dx, fs, sp, rfl, h, ⟨rfl, rfl⟩, hl, q⟩
theorem g_oneD {A : Sp → Prop} {dvs : List V} (h : H p = some (.ins C' dx fs)) (hl : fs.lookup m = none) (q : A (fun vs H Q E => sp (vs ++ dvs) H Q E)) : mthK m (oneD C' sp dvs) (.ref p) H A := ⟨p, C', dx, fs, _, rfl, h, ⟨rfl, rfl⟩, hl, q⟩
theorem g_orA {A : Sp → Prop} {m1 m2 : Addr → Sp → Prop} (q : mthK m m1 x H A) : mthK m (orM m1 m2) x H A := by
  obtain ⟨a, C, dx, fs, sp, e, h, k, l, q⟩ := q
  exact ⟨a, C, dx, fs, sp, e, h, .inl k, l, q⟩
theorem g_orB {A : Sp → Prop} {m1 m2 : Addr → Sp → Prop} (q : mthK m m2 x H A) : mthK m (orM m1 m2) x H A := by
  obtain ⟨a, C, dx, fs, sp, e, h, k, l, q⟩ := q
  exact ⟨a, C, dx, fs, sp, e, h, .inr k, l, q⟩
theorem g_fldA (h : H p = some (.ins (He.ga K C) dx fs)) (hl : fs.lookup f = some v) (c : HasCls K C) (o : HasNo K C f) (q : Q v H) : fldK K f (.ref p) H Q := g_fldK h c.h o.h hl q
theorem g_stoA (h : H p = some (.ins (He.ga K C) dx fs)) (hl : fs.length < 1000) (e : putF f y fs = fs') (c : HasCls K C) (o : HasNo K C f) (q : nH (upd H p (.ins (He.ga K C) dx fs'))) : stoK K f y (.ref p) H nH := by
  subst e
  exact g_stoK h c.h o.h hl q
theorem g_stoU (hl : fs.length < 1000) (e : putF f y fs = fs') (c : HasCls K C) (o : HasNo K C f) (q : nH (upd H p (.ins (He.ga K C) dx fs'))) : stoK K f y (.ref p) (upd H p (.ins (He.ga K C) dx fs)) nH := by
  refine g_stoA (C := C) upd_same hl e c o ?_
  rw [upd_upd]
  exact q
theorem g_fldaug (q : ta σ H fun x H1 => augK K tv rd f x σ H1 fun H2 => n σ H2) : sFldAug K ta tv rd f ⟨n, rt, bk, ct⟩ σ H := q
theorem g_augA (h : H p = some (.ins (He.ga K C) dx fs)) (hl : fs.lookup f = some v) (c : HasCls K C) (o : HasNo K C f) (q : tv σ H fun y H2 => rd v y H2 fun z H3 => putK f (He.ga K C) p z H3 nH) : augK K tv rd f (.ref p) σ H nH :=
  ⟨p, _, dx, fs, v, rfl, h, c.h, o.h, hl, q⟩
theorem g_putA (h : H p = some (.ins C' dx fs)) (hl : fs.length < 1000) (e : putF f y fs = fs') (q : nH (upd H p (.ins C' dx fs'))) : putK f C' p y H nH := by
  subst e
  exact ⟨dx, fs, h, hl, q⟩
theorem g_putU (hl : fs.length < 1000) (e : putF f y fs = fs') (q : nH (upd H p (.ins C' dx fs'))) : putK f C' p y (upd H p (.ins C' dx fs)) nH := by
  refine g_putA upd_same hl e ?_
  rw [upd_upd]
  exact q
theorem g_iadd (q : Q (.int (i + j)) H) : L2.rAdd (.int i) (.int j) H Q := ⟨i, j, rfl, rfl, q⟩
theorem g_isub (q : Q (.int (i - j)) H) : L2.rSub (.int i) (.int j) H Q := ⟨i, j, rfl, rfl, q⟩
theorem g_while {tc : TT} {tb : TS} (W : Nat → St → Hp → Prop) (m : Nat) (w0 : W m σ H) (hs : ∀ m σ H, W m σ H → tc σ H fun b H1 => if b = true then whK W m tb n rt σ H1 else n σ H1) : tWhile tc tb ⟨n, rt, bk, ct⟩ σ H :=
  ⟨W, ⟨m, w0⟩, fun m σ H w => hs m σ H w⟩
theorem g_whK {tb : TS} {W : Nat → St → Hp → Prop} {m : Nat} (q : tb ⟨fun σ' H' => ∃ m', m' < m ∧ W m' σ' H', rt, n, fun σ' H' => ∃ m', m' < m ∧ W m' σ' H'⟩ σ H) : whK W m tb n rt σ H := ⟨_, fun _ _ h => h, q⟩
theorem g_asgT {g : TG} (q : te σ H fun x H1 => g x σ H1 n) : tAsg te g ⟨n, rt, bk, ct⟩ σ H := q
theorem g_gname {k : Nat} (q : asgn k n v σ H) : gName k v σ H n := q
theorem g_gtup {k : Nat} {t : TGs} {xs : List V} (h : SqT K H p xs) (hl : xs.length = k) (q : t xs σ H n) : gTup K k t (.ref p) σ H n := ⟨p, xs, rfl, h, hl, q⟩
theorem g_gcons {a : TG} {t : TGs} {xs : List V} (q : a v σ H fun σ1 H1 => t xs σ1 H1 n) : gCons a t (v :: xs) σ H n := ⟨v, xs, rfl, q⟩
theorem g_gnil (q : n σ H) : gNil [] σ H n := ⟨rfl, q⟩
theorem g_gsub {to ti : TE} {t : TSet} (q : to σ H fun o H1 => ti σ H1 fun i H2 => t o i v H2 fun H3 => n σ H3) : gSub to ti t v σ H n := q
theorem g_powE {e : Int} (h : CPow i j) (he : i ^ j.toNat = e) (q : Q (.int e) H) : L2.rI CPow (fun i j => .int (i ^ j.toNat)) (.int i) (.int j) H Q := ⟨i, j, rfl, rfl, h, by subst he; exact q⟩
theorem g_powE' {e : Int} (h : CPow i j) (he : i ^ j.toNat = e) (q : Q (.int e) H) : rPow (.int i) (.int j) H Q := g_powE h he q
theorem g_lshE {e : Int} (h : CShl i j) (he : (2 : Int) ^ j.toNat = e) (q : Q (.int (i * e)) H) : rLsh (.int i) (.int j) H Q := ⟨i, j, rfl, rfl, h, by subst he; exact q⟩
theorem g_rshE {e : Int} (h : 0 ≤ j) (he : (2 : Int) ^ j.toNat = e) (q : Q (.int (i / e)) H) : rRsh (.int i) (.int j) H Q := ⟨i, j, rfl, rfl, h, by subst he; exact q⟩
theorem g_mul (h : (-(2 ^ 64) < i ∧ i < 2 ^ 64) ∨ (-(2 ^ 64) < j ∧ j < 2 ^ 64)) (q : Q (.int (i * j)) H) : rTimes (.int i) (.int j) H Q := g_times (CMul.ok h) q
theorem g_p15 (q : Q (.int 1000000000000000) H) : rPow (.int 10) (.int 15) H Q := g_powE' ⟨by decide, by decide, by decide⟩ (by decide) q
theorem g_p60 (q : Q (.int (10 ^ 60)) H) : rPow (.int 10) (.int 60) H Q := g_powE' ⟨by decide, by decide, by decide⟩ (by decide) q
theorem g_m1 {F : V → Hp → VK → XK → Prop} {a : V} {E : XK} (q : F a H Q E) : on1 F [a] H Q E := ⟨a, rfl, q⟩
theorem g_k1 {F : V → Hp → VK → XK → Prop} {a : V} {E : XK} (q : F a H Q E) : on1 F (a :: ([] ++ [])) H Q E := ⟨a, rfl, q⟩
theorem g_m2 {F : V → V → Hp → VK → XK → Prop} {a b : V} {E : XK} (q : F a b H Q E) : on2 F [a, b] H Q E := ⟨a, b, rfl, q⟩
theorem g_k2 {F : V → V → Hp → VK → XK → Prop} {a b : V} {E : XK} (q : F a b H Q E) : on2 F (a :: ([b] ++ [])) H Q E := ⟨a, b, rfl, q⟩
theorem g_m3 {F : V → V → V → Hp → VK → XK → Prop} {a b c : V} {E : XK} (q : F a b c H Q E) : on3 F [a, b, c] H Q E := ⟨a, b, c, rfl, q⟩
theorem g_k3 {F : V → V → V → Hp → VK → XK → Prop} {a b c : V} {E : XK} (q : F a b c H Q E) : on3 F (a :: ([b, c] ++ [])) H Q E := ⟨a, b, c, rfl, q⟩
theorem g_m4 {F : V → V → V → V → Hp → VK → XK → Prop} {a b c d : V} {E : XK} (q : F a b c d H Q E) : on4 F [a, b, c, d] H Q E := ⟨a, b, c, d, rfl, q⟩
theorem g_k4 {F : V → V → V → V → Hp → VK → XK → Prop} {a b c d : V} {E : XK} (q : F a b c d H Q E) : on4 F (a :: ([b, c, d] ++ [])) H Q E := ⟨a, b, c, d, rfl, q⟩
theorem g_m5 {F : V → V → V → V → V → Hp → VK → XK → Prop} {a b c d e : V} {E : XK} (q : F a b c d e H Q E) : on5 F [a, b, c, d, e] H Q E := ⟨a, b, c, d, e, rfl, q⟩
theorem g_k5 {F : V → V → V → V → V → Hp → VK → XK → Prop} {a b c d e : V} {E : XK} (q : F a b c d e H Q E) : on5 F (a :: ([b, c, d, e] ++ [])) H Q E := ⟨a, b, c, d, e, rfl, q⟩
theorem difNY {c A B : Prop} [Decidable c] (h : c) (q : B) : if (!decide c) = true then A else B := by rw [decide_eq_true h]; exact iteF q
theorem difNX {c A B : Prop} [Decidable c] (h : ¬ c) (q : A) : if (!decide c) = true then A else B := by rw [decide_eq_false h]; exact iteT q
end
theorem at0 {u : V} {r : List V} : atI (u :: r) 0 = some u := atI_nat (j := 0) rfl
theorem at1 {u v : V} {r : List V} : atI (u :: v :: r) 1 = some v := atI_nat (j := 1) rfl
theorem at2 {u v w : V} {r : List V} : atI (u :: v :: w :: r) 2 = some w := atI_nat (j := 2) rfl
theorem at3 {u v w x : V} {r : List V} : atI (u :: v :: w :: x :: r) 3 = some x := atI_nat (j := 3) rfl
/-! ### enumerate -/
def forEK (K : PySem.W.Frag) (g : TG) (tb : TS) (n : St → Hp → Prop) (rt : VK) (σ : St) (vs : List V) (H : Hp) : Prop := ∃ a xs, vs = [.ref a] ∧ SqL K H a xs ∧ forJ (Ite K a) g tb n rt σ H
section
variable {K : PySem.W.Frag} {σ σ' : St} {H H' : Hp} {ta : TA} {tb : TS} {g : TG} {n : St → Hp → Prop} {rt : VK} {bk ct : St → Hp → Prop} {a : Addr} {xs : List V} {m1 m2 : Nat}
theorem g_forE (q : ta σ H fun vs H1 => forEK K g tb n rt σ vs H1) : tFor (iEnum K ta) g tb ⟨n, rt, bk, ct⟩ σ H := q
theorem for_E (hs : SqL K H a xs) (Pv : Nat → St → Hp → Prop) (h0 : Pv 0 σ H) (hl : ∀ i σ H, Pv i σ H → SqL K H a xs)
    (ht : ∀ i x σ H T, xs[i]? = some x → H T = none → Pv i σ H → asgn m1 (fun σ1 H1 => asgn m2 (fun σ2 H2 => tb ⟨Pv (i + 1), rt, n, Pv (i + 1)⟩ σ2 H2) x σ1 H1) (.int (i : Int)) σ (upd H T (.tup [.int (i : Int), x])))
    (hd : ∀ σ H, Pv xs.length σ H → n σ H) : forEK K (gTup K 2 (gCons (gName m1) (gCons (gName m2) gNil))) tb n rt σ [.ref a] H := by
  refine ⟨a, xs, rfl, hs, fun i m σ H => m = xs.length - i ∧ i ≤ xs.length ∧ Pv i σ H, ⟨xs.length, rfl, Nat.zero_le _, h0⟩, ?_⟩
  rintro i m σ H ⟨rfl, hi, p⟩
  by_cases hlt : i < xs.length
  · refine .inr ⟨⟨xs, xs[i], hl i σ H p, List.getElem?_eq_getElem hlt⟩, fun σ' H' => Pv (i + 1) σ' H', fun σ' H' q => ⟨xs.length - (i + 1), by omega, rfl, hlt, q⟩, fun v H' hy => ?_⟩
    obtain ⟨T, x, rfl, nT, rfl, ex⟩ := hy
    have ex := ex xs (hl i σ H p)
    exact ⟨T, [.int (i : Int), x], rfl, stt_of upd_same, rfl, _, _, rfl, _, _, rfl, rfl, ht i x σ H T ex nT p⟩
  · have e : i = xs.length := by omega
    subst e
    exact .inl ⟨⟨xs, hl _ σ H p, Nat.le_refl _⟩, hd σ H p⟩
theorem for_EI {ns : List Int} (hs : SqL K H a (ns.map V.int)) (Pv : Nat → St → Hp → Prop) (h0 : Pv 0 σ H) (hl : ∀ i σ H, Pv i σ H → SqL K H a (ns.map V.int))
    (ht : ∀ i z σ H T, ns[i]? = some z → H T = none → Pv i σ H → asgn m1 (fun σ1 H1 => asgn m2 (fun σ2 H2 => tb ⟨Pv (i + 1), rt, n, Pv (i + 1)⟩ σ2 H2) (.int z) σ1 H1) (.int (i : Int)) σ (upd H T (.tup [.int (i : Int), .int z])))
    (hd : ∀ σ H, Pv ns.length σ H → n σ H) : forEK K (gTup K 2 (gCons (gName m1) (gCons (gName m2) gNil))) tb n rt σ [.ref a] H := by
  refine for_E hs Pv h0 hl (fun i x σ H T hx hT p => ?_) fun σ H p => hd σ H (by rw [List.length_map] at p; exact p)
  obtain ⟨z, hz, rfl⟩ := map_at hx
  exact ht i z σ H T hz hT p
end
/-! ### isinstance of own classes -/
class HasIns (K : PySem.W.Frag) (C : Str) : Prop where
  ha : PySem.W.findIn K (.ref (He.ga K C)) "__class__" = some (some (.builtin "object.__class__"))
  hn : PySem.W.specialIn K (.builtin "object.__class__") "__get__" = some (some (.builtin "getset_descriptor.__get__"))
  ht : PySem.W.takesIn K (.builtin "object.__class__") = some true
  hm : PySem.W.mroIn K (He.ga K C) (.type "object") = some true
class HasKit (K : PySem.W.Frag) (C D : Str) (b : outParam Bool) : Prop where h : PySem.W.kitOne K (.ref (He.ga K C)) (.ref (He.ga K D)) = some b
theorem ty_ins {K : PySem.W.Frag} {H : Hp} {a dx : Addr} {C : Str} {fs : List (Str × V)} [c : HasCls K C] [i : HasIns K C] (h : H a = some (.ins (He.ga K C) dx fs)) : TyX K H (.ref a) (.ref (He.ga K C)) := .base (.ins h c.h i.ha i.hn i.ht i.hm)
theorem g_isiC {K : PySem.W.Frag} {H : Hp} {Q : VK} {a dx : Addr} {C D : Str} {b : Bool} {fs : List (Str × V)} [HasCls K C] [HasIns K C] [k : HasKit K C D b] (h : H a = some (.ins (He.ga K C) dx fs)) (q : Q (.bl b) H) : rIsi2 K [.ref a, .ref (He.ga K D)] H Q :=
  .inl ⟨.ref a, .ref (He.ga K D), .ref (He.ga K C), .ref (He.ga K D), b, rfl, .own _, ty_ins h, k.h, q⟩
/-! ### shifts of 1 -/
theorem g_sh15 {H : Hp} {Q : VK} (q : Q (.int 32768) H) : rLsh (.int 1) (.int 15) H Q := g_lshE (e := 32768) ⟨by decide, by decide⟩ (by decide) (by simpa using q)
theorem g_sh16 {H : Hp} {Q : VK} (q : Q (.int 65536) H) : rLsh (.int 1) (.int 16) H Q := g_lshE (e := 65536) ⟨by decide, by decide⟩ (by decide) (by simpa using q)
theorem g_sh23 {H : Hp} {Q : VK} (q : Q (.int 8388608) H) : rLsh (.int 1) (.int 23) H Q := g_lshE (e := 8388608) ⟨by decide, by decide⟩ (by decide) (by simpa using q)
theorem g_sh24 {H : Hp} {Q : VK} (q : Q (.int 16777216) H) : rLsh (.int 1) (.int 24) H Q := g_lshE (e := 16777216) ⟨by decide, by decide⟩ (by decide) (by simpa using q)
theorem g_sh40 {H : Hp} {Q : VK} (q : Q (.int 1099511627776) H) : rLsh (.int 1) (.int 40) H Q := g_lshE (e := 1099511627776) ⟨by decide, by decide⟩ (by decide) (by simpa using q)
theorem g_sh48 {H : Hp} {Q : VK} (q : Q (.int 281474976710656) H) : rLsh (.int 1) (.int 48) H Q := g_lshE (e := 281474976710656) ⟨by decide, by decide⟩ (by decide) (by simpa using q)
theorem g_p30 {H : Hp} {Q : VK} (q : Q (.int 1000000000000000000000000000000) H) : rPow (.int 10) (.int 30) H Q := g_powE' ⟨by decide, by decide, by decide⟩ (by decide) q
/-! Fo, zip: loops and comprehensions over two lists of ints. -/
def forZK (K : PySem.W.Frag) (g : TG) (tb : TS) (n : St → Hp → Prop) (rt : VK) (σ : St) (vs : List V) (H : Hp) : Prop := ∃ a b xs ys, vs = [.ref a, .ref b] ∧ SqL K H a xs ∧ SqL K H b ys ∧ forJ (Itz K a b) g tb n rt σ H
def lcZK (K : PySem.W.Frag) (g : TG) (tt : TT) (te : TE) (us : List Nat) (σ : St) (vs : List V) (H : Hp) (Q : VK) : Prop := ∃ a b xs ys, vs = [.ref a, .ref b] ∧ SqL K H a xs ∧ SqL K H b ys ∧ lcJ (Itz K a b) g tt te us σ H Q
def eachZ (te : TE) (m1 m2 : Nat) (σ : St) (H1 : Hp) (w c : Int) (y : V) : Prop :=
  ∀ H2 Q, Same H1 H2 → (∀ H3, Same H2 H3 → Q y H3) → asgn m1 (fun σ1 H' => asgn m2 (fun σ2 H'' => te σ2 H'' Q) (.int c) σ1 H') (.int w) ((σ.set m2 none).set m1 none) H2
section
variable {K : PySem.W.Frag} {σ σ' : St} {H H' : Hp} {Q : VK} {te : TE} {ta : TA} {tb : TS} {g : TG} {n : St → Hp → Prop} {rt : VK} {bk ct : St → Hp → Prop} {a b : Addr} {ws cs : List Int} {m1 m2 : Nat} {i : Nat} {x y : V}
theorem g_forZ (q : ta σ H fun vs H1 => forZK K g tb n rt σ vs H1) : tFor (iZip K ta) g tb ⟨n, rt, bk, ct⟩ σ H := q
theorem g_lcZ {tt : TT} {us : List Nat} (q : ta σ H fun vs H1 => lcZK K g tt te us σ vs H1 Q) : tLc (iZip K ta) g tt te us σ H Q := q
theorem zip_at (hw : SqL K H a (ws.map V.int)) (hc : SqL K H b (cs.map V.int)) (hx : ∀ xs, SqL K H a xs → xs[i]? = some x) (hy : ∀ ys, SqL K H b ys → ys[i]? = some y) : ∃ w c, ws[i]? = some w ∧ cs[i]? = some c ∧ x = .int w ∧ y = .int c := by
  obtain ⟨w, ew, rfl⟩ := map_at (hx _ hw)
  obtain ⟨c, ec, rfl⟩ := map_at (hy _ hc)
  exact ⟨w, c, ew, ec, rfl, rfl⟩
theorem for_ZI (hs : SqL K H a (ws.map V.int)) (hc : SqL K H b (cs.map V.int)) (hl : ws.length = cs.length) (Pv : Nat → St → Hp → Prop) (h0 : Pv 0 σ H) (hk : ∀ i σ H, Pv i σ H → SqL K H a (ws.map V.int) ∧ SqL K H b (cs.map V.int))
    (ht : ∀ i w c σ H T, ws[i]? = some w → cs[i]? = some c → H T = none → Pv i σ H → asgn m1 (fun σ1 H1 => asgn m2 (fun σ2 H2 => tb ⟨Pv (i + 1), rt, n, Pv (i + 1)⟩ σ2 H2) (.int c) σ1 H1) (.int w) σ (upd H T (.tup [.int w, .int c])))
    (hd : ∀ σ H, Pv ws.length σ H → n σ H) : forZK K (gTup K 2 (gCons (gName m1) (gCons (gName m2) gNil))) tb n rt σ [.ref a, .ref b] H := by
  refine ⟨a, b, _, _, rfl, hs, hc, fun i m σ H => m = ws.length - i ∧ i ≤ ws.length ∧ Pv i σ H, ⟨ws.length, rfl, Nat.zero_le _, h0⟩, ?_⟩
  rintro i m σ H ⟨rfl, hi, p⟩
  obtain ⟨ka, kb⟩ := hk i σ H p
  by_cases hlt : i < ws.length
  · refine .inr ⟨⟨_, _, .int ws[i], .int (cs[i]'(hl ▸ hlt)), ka, kb, ?_, ?_⟩, fun σ' H' => Pv (i + 1) σ' H', fun σ' H' q => ⟨ws.length - (i + 1), by omega, rfl, hlt, q⟩, fun v H' hy => ?_⟩
    · rw [List.getElem?_map, List.getElem?_eq_getElem hlt]; rfl
    · rw [List.getElem?_map, List.getElem?_eq_getElem (hl ▸ hlt)]; rfl
    obtain ⟨T, x, y, rfl, nT, rfl, ex, ey⟩ := hy
    obtain ⟨w, c, ew, ec, rfl, rfl⟩ := zip_at ka kb ex ey
    exact ⟨T, [.int w, .int c], rfl, stt_of upd_same, rfl, _, _, rfl, _, _, rfl, rfl, ht i w c σ H T ew ec nT p⟩
  · have e : i = ws.length := by omega
    subst e
    exact .inl ⟨⟨_, _, ka, kb, .inl (by rw [List.length_map]; exact Nat.le_refl _)⟩, hd σ H p⟩
theorem wipe2 (hne : m1 ≠ m2) (x y : Option V) : wipe (((wipe σ [m1, m2]).set m1 x).set m2 y) [m1, m2] = wipe σ [m1, m2] := by
  show ((((((σ.set m2 none).set m1 none).set m1 x).set m2 y).set m2 none).set m1 none) = ((σ.set m2 none).set m1 none)
  rw [List.set_set, List.set_set, List.set_comm x none hne, List.set_set, List.set_set]
theorem lc_ZI (hs : SqL K H a (ws.map V.int)) (hc : SqL K H b (cs.map V.int)) (hl : ws.length = cs.length) (hne : m1 ≠ m2) (f : Int → Int → V) (hb : ws.length ≤ 1000000)
    (he : ∀ w c, w ∈ ws → c ∈ cs → eachZ te m1 m2 σ H w c (f w c)) (hq : ∀ D H3, H D = none → Same H H3 → H3 D = some (.lst (List.zipWith f ws cs)) → Q (.ref D) H3) :
    lcZK K (gTup K 2 (gCons (gName m1) (gCons (gName m2) gNil))) tYes te [m1, m2] σ [.ref a, .ref b] H Q := by
  refine ⟨a, b, _, _, rfl, hs, hc, fun D hD => ?_⟩
  refine ⟨fun i k H3 => k = ws.length - i ∧ i ≤ ws.length ∧ Same H H3 ∧ H3 D = some (.lst (List.zipWith f (ws.take i) (cs.take i))), ⟨ws.length, rfl, Nat.zero_le _, same_new (Same.refl _) hD, upd_same⟩, ?_⟩
  rintro i k H3 ⟨rfl, hi, s, e⟩
  have ka := s.seq hs
  have kb := s.seq hc
  by_cases hlt : i < ws.length
  · refine .inr ⟨⟨_, _, .int ws[i], .int (cs[i]'(hl ▸ hlt)), ka, kb, ?_, ?_⟩, fun H4 => Same H H4 ∧ H4 D = some (.lst (List.zipWith f (ws.take (i + 1)) (cs.take (i + 1)))), fun H4 p => ⟨ws.length - (i + 1), by omega, rfl, hlt, p⟩, fun v H4 hy => ?_⟩
    · rw [List.getElem?_map, List.getElem?_eq_getElem hlt]; rfl
    · rw [List.getElem?_map, List.getElem?_eq_getElem (hl ▸ hlt)]; rfl
    obtain ⟨T, x, y, rfl, nT, rfl, ex, ey⟩ := hy
    obtain ⟨w, c, ew, ec, rfl, rfl⟩ := zip_at ka kb ex ey
    refine ⟨T, [.int w, .int c], rfl, stt_of upd_same, rfl, _, _, rfl, _, _, rfl, rfl, wipe2 hne _ _, ?_⟩
    have yes : ∀ {A B : Prop}, A → if true = true then A else B := fun h => iteT h
    refine yes (B := ((fun H2 => Same H H2 ∧ H2 D = some (HO.lst (List.zipWith f (ws.take (i + 1)) (cs.take (i + 1))))) (upd H3 T (.tup [.int w, .int c])))) ?_
    have nTD : D ≠ T := ne_of_none e nT
    refine he w c (List.mem_of_getElem? ew) (List.mem_of_getElem? ec) _ _ (same_new s nT) fun H5 s5 => ⟨List.zipWith f (ws.take i) (cs.take i), s5 _ _ (lk_mut nTD e), ?_, same_mut (Same.trans (same_new s nT) s5) hD, ?_⟩
    · rw [List.length_zipWith, List.length_take]
      refine Nat.lt_of_le_of_lt (m := 1000000) ?_ (by decide)
      omega
    · rw [upd_same, List.take_add_one, List.take_add_one, ew, ec]
      rw [List.zipWith_append (by simp only [List.length_take]; omega)]
      rfl
  · have e1 : i = ws.length := by omega
    subst e1
    rw [List.take_length, List.take_of_length_le (Nat.le_of_eq hl.symm)] at e
    exact .inl ⟨⟨_, _, ka, kb, .inl (by rw [List.length_map]; exact Nat.le_refl _)⟩, hq D H3 hD s e⟩
end
/-! ### ranges with a step -/
def forR3K (g : TG) (tb : TS) (n : St → Hp → Prop) (rt : VK) (σ : St) (vs : List V) (H : Hp) : Prop := ∃ (i j c : Int) (k : Nat), vs = [.int i, .int j, .int c] ∧ RgC i j c k ∧ forJ (Itc i c k) g tb n rt σ H
def lcR3K (g : TG) (tt : TT) (te : TE) (vs : List Nat) (σ : St) (us : List V) (H : Hp) (Q : VK) : Prop := ∃ (i j c : Int) (k : Nat), us = [.int i, .int j, .int c] ∧ RgC i j c k ∧ lcJ (Itc i c k) g tt te vs σ H Q
section
variable {K : PySem.W.Frag} {σ σ' : St} {H H' : Hp} {Q : VK} {te : TE} {ta : TA} {tb : TS} {g : TG} {n : St → Hp → Prop} {rt : VK} {bk ct : St → Hp → Prop} {m k : Nat} {i j c : Int}
theorem g_forR3 (q : ta σ H fun vs H1 => forR3K g tb n rt σ vs H1) : tFor (iRng3 ta) g tb ⟨n, rt, bk, ct⟩ σ H := q
theorem g_lcR3 {tt : TT} {vs : List Nat} (q : ta σ H fun us H1 => lcR3K g tt te vs σ us H1 Q) : tLc (iRng3 ta) g tt te vs σ H Q := q
theorem for_R3 (hr : RgC i j c k) (Pv : Nat → St → Hp → Prop) (h0 : Pv 0 σ H)
    (ht : ∀ (l : Nat) σ H, l < k → Pv l σ H → asgn m (fun σ2 H2 => tb ⟨Pv (l + 1), rt, n, Pv (l + 1)⟩ σ2 H2) (.int (i + (l : Int) * c)) σ H) (hd : ∀ σ H, Pv k σ H → n σ H) : forR3K (gName m) tb n rt σ [.int i, .int j, .int c] H := by
  refine ⟨i, j, c, k, rfl, hr, fun l mm σ H => mm = k - l ∧ l ≤ k ∧ Pv l σ H, ⟨k, rfl, Nat.zero_le _, h0⟩, ?_⟩
  rintro l mm σ H ⟨rfl, hl, p⟩
  by_cases hlt : l < k
  · refine .inr ⟨hlt, fun σ' H' => Pv (l + 1) σ' H', fun σ' H' q => ⟨k - (l + 1), by omega, rfl, hlt, q⟩, fun v H' hy => ?_⟩
    obtain ⟨rfl, rfl⟩ := hy
    exact ht l σ _ hlt p
  · have e : l = k := by omega
    subst e
    exact .inl ⟨Nat.le_refl _, hd σ H p⟩
theorem lc_R3 (hr : RgC i j c k) (f : Nat → V) (hl : k ≤ 1000000) (he : ∀ l, l < k → ∀ D, eachK te m σ H D (.int (i + (l : Int) * c)) (f l)) (hq : ∀ D H3, H D = none → Same H H3 → H3 D = some (.lst ((List.range k).map f)) → Q (.ref D) H3) :
    lcR3K (gName m) tYes te [m] σ [.int i, .int j, .int c] H Q := by
  refine ⟨i, j, c, k, rfl, hr, fun D hD => ?_⟩
  refine ⟨fun l kk H3 => kk = k - l ∧ l ≤ k ∧ Same H H3 ∧ H3 D = some (.lst ((List.range l).map f)), ⟨k, rfl, Nat.zero_le _, same_new (Same.refl _) hD, upd_same⟩, ?_⟩
  rintro l kk H3 ⟨rfl, hlk, s, e⟩
  by_cases hlt : l < k
  · refine .inr ⟨hlt, fun H4 => Same H H4 ∧ H4 D = some (.lst ((List.range (l + 1)).map f)), fun H4 p => ⟨k - (l + 1), by omega, rfl, hlt, p⟩, fun v H4 hy => ?_⟩
    obtain ⟨rfl, rfl⟩ := hy
    refine ⟨wipe1 _, ?_⟩
    have yes : ∀ {A B : Prop}, A → if true = true then A else B := fun h => iteT h
    refine yes (B := ((fun H2 => Same H H2 ∧ H2 D = some (HO.lst ((List.range (l + 1)).map f))) H4)) ?_
    refine he l hlt D H4 _ s fun H5 s5 => ⟨(List.range l).map f, s5 _ _ e, ?_, same_mut (Same.trans s s5) hD, ?_⟩
    · rw [List.length_map, List.length_range]
      exact Nat.lt_of_le_of_lt (m := 1000000) (by omega) (by decide)
    · rw [upd_same, List.range_succ, List.map_append]
      rfl
  · have e1 : l = k := by omega
    subst e1
    exact .inl ⟨Nat.le_refl _, hq D H3 hD s e⟩
end
theorem g_mask1 {i : Int} {H : Hp} {Q : VK} (q : Q (.int (i % 2)) H) : rMask (.int i) (.int 1) H Q := ⟨i, 1, rfl, by decide, q⟩
theorem g_extend {H : Hp} {Q : VK} {p r : Addr} {xs ys : List V} (h : H p = some (.lst xs)) (k : H r = some (.lst ys)) (hl : xs.length + ys.length ≤ sizeLine) (q : Q .non (upd H p (.lst (xs ++ ys)))) : rExtend (.ref p) [.ref r] H Q :=
  ⟨p, r, xs, ys, rfl, rfl, h, k, hl, q⟩
/-! ### comprehensions whose elements are new things: each is related to its item -/
section
variable {K : PySem.W.Frag} {σ : St} {H : Hp} {Q : VK} {te : TE} {m : Nat} {a : Addr} {ns : List Int}
theorem lc_LR (hs : SqL K H a (ns.map V.int)) (R : Int → V → Hp → Prop) (mono : ∀ z y H0 H1 D zs, H0 D = some (.lst zs) → SameX (· = D) H0 H1 → R z y H0 → R z y H1) (hl : ns.length ≤ 1000000)
    (he : ∀ z, z ∈ ns → ∀ H2 Q2, Same H H2 → (∀ y H3, Same H2 H3 → R z y H3 → Q2 y H3) → asgn m (fun σ2 H2 => te σ2 H2 Q2) (.int z) (σ.set m none) H2)
    (hq : ∀ D H3 ys, H D = none → Same H H3 → H3 D = some (.lst ys) → ys.length = ns.length → (∀ (i : Nat) z y, ns[i]? = some z → ys[i]? = some y → R z y H3) → Q (.ref D) H3) :
    lcLK K (gName m) tYes te [m] σ (.ref a) H Q := by
  refine ⟨a, rfl, ⟨_, hs⟩, fun D hD => ?_⟩
  refine ⟨fun i k H3 => k = ns.length - i ∧ i ≤ ns.length ∧ Same H H3 ∧ ∃ ys, H3 D = some (.lst ys) ∧ ys.length = i ∧ ∀ (j : Nat) z y, ns[j]? = some z → ys[j]? = some y → R z y H3, ⟨ns.length, rfl, Nat.zero_le _, same_new (Same.refl _) hD, [], upd_same, rfl, fun j z y _ h => by simp at h⟩, ?_⟩
  rintro i k H3 ⟨rfl, hi, s, ys, e, yl, hr⟩
  have ka := s.seq hs
  by_cases hlt : i < ns.length
  · refine .inr ⟨⟨_, .int ns[i], ka, by rw [List.getElem?_map, List.getElem?_eq_getElem hlt]; rfl⟩, fun H4 => Same H H4 ∧ ∃ ys, H4 D = some (.lst ys) ∧ ys.length = i + 1 ∧ ∀ (j : Nat) z y, ns[j]? = some z → ys[j]? = some y → R z y H4, fun H4 p => ⟨ns.length - (i + 1), by omega, rfl, hlt, p⟩, fun v H4 hy => ?_⟩
    obtain ⟨rfl, ex⟩ := hy
    obtain ⟨z, ez, rfl⟩ := map_at (ex _ ka)
    refine ⟨wipe1 _, ?_⟩
    have yes : ∀ {A B : Prop}, A → if true = true then A else B := fun h => iteT h
    refine yes (B := ((fun H4 => Same H H4 ∧ ∃ ys, H4 D = some (HO.lst ys) ∧ ys.length = i + 1 ∧ ∀ (j : Nat) z y, ns[j]? = some z → ys[j]? = some y → R z y H4) H4)) ?_
    refine he z (List.mem_of_getElem? ez) H4 _ s fun y H5 s5 ry => ⟨ys, s5 _ _ e, Nat.lt_of_le_of_lt (m := 1000000) (by omega) (by decide), same_mut (Same.trans s s5) hD, ys ++ [y], upd_same, by rw [List.length_append, yl]; rfl, fun j z' y' hz' hy' => ?_⟩
    have X : SameX (· = D) H5 (upd H5 D (.lst (ys ++ [y]))) := (SameX.refl H5).mut rfl
    rcases Nat.lt_or_ge j i with c | c
    · rw [List.getElem?_append_left (by omega)] at hy'
      exact mono _ _ _ _ D ys (s5 _ _ e) X (mono _ _ _ _ D ys e (SameX.of s5) (hr j z' y' hz' hy'))
    · have ej : j = i := by
        have h2 := (List.getElem?_eq_some_iff.mp hy').1
        rw [List.length_append, yl, List.length_singleton] at h2
        omega
      subst ej
      rw [List.getElem?_append_right (by omega), yl, Nat.sub_self] at hy'
      rw [ez] at hz'
      cases hz'
      cases hy'
      exact mono _ _ _ _ D ys (s5 _ _ e) X ry
  · have e1 : i = ns.length := by omega
    subst e1
    exact .inl ⟨⟨_, ka, by rw [List.length_map]; exact Nat.le_refl _⟩, hq D H3 ys hD s e yl hr⟩
end
/-! Fo, try: one clause 'except C as e', its suite asks of which class e is. -/
def rIsET (K : PySem.W.Frag) (D a : Addr) : List V → Hp → VK → Prop := fun xs H Q => ∃ (tp : Addr) (cs : List V) (ws : List Value) (b : Bool), xs = [.ref a, .ref tp] ∧ H tp = some (.tup cs) ∧ Paired ClsV cs ws ∧ PySem.W.kitAny K (.ref D) ws = some b ∧ Q (.bl b) H
theorem call_isET {X : Cx} {a D : Addr} {oe : Obj} {pn : List (Addr × Obj)} (C : ExcC X.K D) (hz : Zc (.ref D) none oe) (hf : ∃ vs, oe.data = .fields vs) : CallR (X.suite a ((a, oe) :: pn)) (.builtin "isinstance") (rIsET X.K D a) := by
  intro pins s σ H xs us Q I r h
  obtain ⟨tp, cs, ws, b, rfl, hT, k, e, q⟩ := h
  obtain ⟨u1, u2, rfl, r1, r2⟩ := vals2 r
  cases (show u2 = Value.ref tp from r2)
  cases (show u1 = Value.ref a from r1)
  obtain ⟨_, its, rv, o, h1, h2, n, h3⟩ := (show ObjOk X.prog X.w H s.heap tp (.tup cs) from I.hok tp _ hT)
  have e3 := ClsV.all k rv
  subst e3
  obtain ⟨oc, od, dt, sl⟩ := o
  simp only at h2 h3
  subst h2 h3
  obtain ⟨hget, _⟩ := I.pin (a, oe) (List.mem_append.mpr (.inl List.mem_cons_self))
  obtain ⟨vs, hv⟩ := hf
  have J : PySem.W.InstAt s.heap a oe D none := by
    obtain ⟨oc, od, oda, osl⟩ := oe
    obtain ⟨h1, h2⟩ := hz
    dsimp only at h1 h2 hv
    subst h1 h2 hv
    exact ⟨hget, rfl, rfl, trivial⟩
  exact PySem.W.kia_tup (PySem.W.handS_kitx_exc C.hg C.hk C.hs C.hd C.ha C.hn C.ht C.hm) I.kIn J h1 e (fun z => nomatch z) fun tk => ⟨.bl b, H, I.tok tk, rfl, q⟩
def rIsEx (K : PySem.W.Frag) (D a : Addr) : List V → Hp → VK → Prop := fun xs H Q => rIsE K D a xs H Q ∨ rIsET K D a xs H Q
theorem c_isx {X : Cx} {a D : Addr} {oe : Obj} {pn : List (Addr × Obj)} (C : ExcC X.K D) (hz : Zc (.ref D) none oe) (hf : ∃ vs, oe.data = .fields vs) : CallR (X.suite a ((a, oe) :: pn)) (.builtin "isinstance") (rIsEx X.K D a) := orCall (call_isE C hz hf) (call_isET C hz hf)
/-- the suite, asked of an exception of an own class without a dict -/
def tEx (K : PySem.W.Frag) (ts : Addr → Addr → TS) : Addr → Value → Option Addr → TS := fun a cls d Dd σ H => ∃ D, cls = .ref D ∧ d = none ∧ ExcC K D ∧ ts a D Dd σ H
def tTry (K : PySem.W.Frag) (c : Value) (i : Nat) (tb : WX → TS) (ts : Addr → Addr → TS) (Wout : WX) : TS := fun D σ H => tb (wAs K c i (tEx K ts) Wout D) D σ H
section
variable {X : Cx} {x n : Str} {c : Value} {i : Nat} {body suite : List Stmt} {b₀ : Stmt} {np pos pos' : Pos} {tb : WX → TS} {ts : Addr → Addr → TS} {Wout : WX}
theorem ps_tryX (hs : X.stack = X.env :: X.outer) (hf : X.env.frame = some X.env.locals) (hN : X.N.Nodup) (hi : X.N[i]? = some n) (hln : X.env.kindOf n = some .local) (hc : Names X x c) (tk : Takes X Wout)
    (hb : ∀ (W : WX) (pn : List (Addr × Obj)) (xe : Value → Shared → Prop), Takes (X.tr pn xe) W → PassesOwn (model X.prog X.w) X.A X.env xe → PSs (X.tr pn xe) body (tb W))
    (hsu : ∀ (a : Addr) (oe : Obj) (D : Addr) (pn : List (Addr × Obj)), Zc (.ref D) none oe → (∃ vs, oe.data = .fields vs) → ExcC X.K D → PSs (X.suite a ((a, oe) :: pn)) (b₀ :: suite) (ts a D)) :
    PS X (.Try body [.ExceptHandler (some (.Name x np)) (some n) (b₀ :: suite) pos'] [] [] pos) (tTry X.K c i tb ts Wout) :=
  ps_try_as hs hf hN hi hln hc tk hb fun a oe cls d pn hz hfd => ⟨fun pins s σ H Dd I h => by
    obtain ⟨D, rfl, rfl, C, h⟩ := h
    exact (hsu a oe D pn hz hfd C).run pins s σ H Dd I h⟩
end
class HasExc (K : PySem.W.Frag) (C : Str) : Prop where h : ExcC K (He.ga K C)
class HasExm (K : PySem.W.Frag) (C D : Str) (b : outParam Bool) : Prop where h : PySem.W.exmOne K (.ref (He.ga K C)) (.ref (He.ga K D)) = some b
class HasKitT (K : PySem.W.Frag) (C : Str) (t : String) (b : outParam Bool) : Prop where h : PySem.W.kitOne K (.ref (He.ga K C)) (.type t) = some b
def unset (i : Nat) (n : St → Hp → Prop) : St → Hp → Prop := fun σ H => n (σ.set i none) H
section
variable {K : PySem.W.Frag} {σ σ' : St} {H : Hp} {Q : VK} {c : Value} {i : Nat} {tb : WX → TS} {ts : Addr → Addr → TS} {Wout : WX} {n : St → Hp → Prop} {rt : VK} {bk ct : St → Hp → Prop} {C D : Str} {a : Addr} {b : Bool}
theorem g_try (q : tb (wAs K c i (tEx K ts) Wout ⟨n, rt, bk, ct⟩) ⟨n, rt, bk, ct⟩ σ H) : tTry K c i tb ts Wout ⟨n, rt, bk, ct⟩ σ H := q
/-- what is raised is caught -/
theorem g_caught (e : HasExc K C) (m : HasExm K C D true) (q : ∀ a, H a = none → asgn i (fun σ1 H1 => ts a (He.ga K C) ⟨unset i n, rt, unset i bk, unset i ct⟩ σ1 H1) (.ref a) σ H) :
    wAs K (.ref (He.ga K D)) i (tEx K ts) Wout ⟨n, rt, bk, ct⟩ (.ref (He.ga K C)) none σ H :=
  ⟨true, m.h, fun _ a ha => ⟨He.ga K C, rfl, rfl, e.h, q a ha⟩, fun z => nomatch z⟩
theorem g_we {W : WX} {cls : Value} {d : Option Addr} (q : W cls d σ H) : WE W σ cls d H := q
theorem g_unset (r : SetR σ i none σ') (q : n σ' H) : unset i n σ H := by
  unfold unset
  rw [r.eq]
  exact q
theorem g_isx1 (k : HasKit K C D b) (q : Q (.bl b) H) : rIsEx K (He.ga K C) a [.ref a, .ref (He.ga K D)] H Q := .inl ⟨.ref (He.ga K D), .ref (He.ga K D), b, rfl, fun u r => r, k.h, q⟩
theorem g_isxT {t : String} (k : HasKitT K C t b) (q : Q (.bl b) H) : rIsEx K (He.ga K C) a [.ref a, .ty t] H Q := .inl ⟨.ty t, .type t, b, rfl, fun u r => r, k.h, q⟩
/-- classes whose answer is no -/
inductive NoneOf (K : PySem.W.Frag) (C : Str) : List V → List Value → Prop
  | nil : NoneOf K C [] []
  | cons {D : Str} {vs : List V} {us : List Value} (k : HasKit K C D false) (h : NoneOf K C vs us) : NoneOf K C (.ref (He.ga K D) :: vs) (.ref (He.ga K D) :: us)
theorem NoneOf.pair {vs : List V} {us : List Value} (h : NoneOf K C vs us) : Paired ClsV vs us ∧ PySem.W.kitAny K (.ref (He.ga K C)) us = some false := by
  induction h with
  | nil => exact ⟨.nil, kitAny_nil⟩
  | cons k h ih => exact ⟨.cons (.own _) ih.1, kitAny_cons k.h (fun _ => ih.2) (fun z => nomatch z)⟩
theorem g_isx0 {tp : Addr} {vs : List V} {us : List Value} (h : H tp = some (.tup vs)) (k : NoneOf K C vs us) (q : Q (.bl false) H) : rIsEx K (He.ga K C) a [.ref a, .ref tp] H Q := .inr ⟨tp, vs, us, false, rfl, h, k.pair.1, k.pair.2, q⟩
end
/-! Fo, end: from a law's promise to its statement. -/
theorem cx_any {P : Program} {w : World} {K : PySem.W.Frag} {mg : Str → Option Value} {base : Heap} {k : Nat} {f : Addr} {fd : FuncData} {ps : List Str} {sp : Sp} (F : FnOk P w K mg base (L2.CX P w) k f fd ps sp) :
    FnOk P w K mg base (fun o H s E u s' => ∃ (P : Program) (w : World), L2.CX P w o H s E u s') k f fd ps sp :=
  ⟨F.len, fun A outer s H args us vs Q E hr he hb hv hs => codeAny_mono (F.run A outer s H args us vs Q E hr he hb hv hs) fun r s' h => match r, h with
    | .ok (.ret u), h => h
    | .ok .next, h => h
    | .ok .brk, h => h
    | .ok .cont, h => h
    | .error e, h => ⟨P, w, h⟩⟩
theorem exn_ok {K : PySem.W.Frag} {h : Heap} {mg : Str → Option Value} {x : Str} (KX : K.In h) (G : h.Ns mainGlobals mg) (c : (He.Fa.glo x).ok K = true) (d : (He.Fa.exc x).ok K = true) : Exn K mg x (He.ga K x) := by
  obtain ⟨a, b, e, f⟩ := He.exc_ok d
  exact ⟨He.glo_ok KX G c, a, b, e, f⟩
theorem ok_of {P : Program} {w : World} {K : PySem.W.Frag} {mg : Str → Option Value} {base : Heap} {x qual : Str} {st : Stmt} {f : Addr} {fd : FuncData} {N ps : List Str} {k : Nat} {sp : Sp} {T : XK → TS} {dvs : List V} (F : FunD K x qual (defArgs st) (defBody st) (defScope st) dvs [] f fd) (S : FnScope N ps (defScope st))
    (len : ∀ vs H Q E, sp vs H Q E → vs.length = ps.length)
    (body : ∀ (cdv : Value) (A : Around) (outer : List Env) (s : Shared) (H : Hp) (E : XK), Room k (A.deeper (envOfC qual (defScope st) s.heap.objs.size f cdv)) → PSs (cxD P w K mg base N qual st f cdv A outer s H E) (defBody st) (T E))
    (read : ∀ vs H Q E, sp vs H Q E → T E { nx := fun _ H' => Q .non H', rt := Q } (start N vs) H) : FnOk P w K mg base (L2.CX P w) (k + 1) f fd ps sp :=
  F.ok S len fun cdv A outer s H vs Q E hr h => ⟨T E, body cdv A outer s H E hr, read vs H Q E h⟩
/-! ### further facts of the written part -/
inductive Xf where
  | ins (C : Str) | kit (C D : Str) (b : Bool) | kitT (C : Str) (n : String) (b : Bool) | kitB (n : String) (D : Str) (b : Bool) | tup (x : Str) (vs : List He.Dv) | exc (C : Str)
def Xf.ok (K : PySem.W.Frag) : Xf → Bool
  | .ins C => He.eqO (PySem.W.findIn K (.ref (He.ga K C)) "__class__") (some (some (.builtin "object.__class__"))) && (He.eqO (PySem.W.specialIn K (.builtin "object.__class__") "__get__") (some (some (.builtin "getset_descriptor.__get__"))) &&
      (decide (PySem.W.takesIn K (.builtin "object.__class__") = some true) && decide (PySem.W.mroIn K (He.ga K C) (.type "object") = some true)))
  | .kit C D b => decide (PySem.W.kitOne K (.ref (He.ga K C)) (.ref (He.ga K D)) = some b)
  | .kitT C n b => decide (PySem.W.kitOne K (.ref (He.ga K C)) (.type n) = some b)
  | .kitB n D b => decide (PySem.W.kitOne K (.type n) (.ref (He.ga K D)) = some b)
  | .tup x vs => He.tupB K x vs
  | .exc C => He.eqO (PySem.W.findIn K (.ref (He.ga K C)) "__getattribute__") (some (some (.builtin "BaseException.__getattribute__"))) && (He.eqO (PySem.W.findIn K (.ref (He.ga K C)) "__getattr__") (some none) &&
      (decide (PySem.W.subIn K (.ref (He.ga K C)) (.type "BaseException") = some true) && (PySem.W.hasDictIn K (He.ga K C) && (He.eqO (PySem.W.findIn K (.ref (He.ga K C)) "__class__") (some (some (.builtin "object.__class__"))) &&
      (He.eqO (PySem.W.specialIn K (.builtin "object.__class__") "__get__") (some (some (.builtin "getset_descriptor.__get__"))) && (decide (PySem.W.takesIn K (.builtin "object.__class__") = some true) && decide (PySem.W.mroIn K (He.ga K C) (.type "object") = some true)))))))
abbrev AlX : Type := Bool × He.AlD
def obsX (fa : List He.Fa) (fn : List He.DefD) (xf : List Xf) (K : PySem.W.Frag) : AlX := (xf.all fun f => f.ok K, He.obsD fa fn K)
structure SaysX (fa : List He.Fa) (fn : List He.DefD) (xf : List Xf) (K : PySem.W.Frag) : Prop where
  d : He.SaysD fa fn K
  x : (xf.all fun f => f.ok K) = true
def obsXG (n : Nat) (fa : List He.Fa) (fn : List He.DefD) (xf : List Xf) (g : Addr → Option Obj) : AlX := obsX fa fn xf (He.frG g (He.asD g n))
def hookX (n : Nat) (fa : List He.Fa) (fn : List He.DefD) (xf : List Xf) : PySem.W.Hook where
  α := AlX
  obs := fun s => obsXG n fa fn xf s.heap.get?
  val := fun _ => (true, He.valD fn)
  says := fun _ h => ∃ K : PySem.W.Frag, K.In h ∧ SaysX fa fn xf K
  of := fun _ s e => ⟨He.frG s.heap.get? (He.asD s.heap.get? n), He.frG_in, ⟨congrArg (fun z : AlX => z.2) e, congrArg (fun z : AlX => z.1) e⟩⟩
  keeps := fun _ _ _ ⟨K, hK, c⟩ k => ⟨K, PySem.W.Frag.In.keeps hK k, c⟩
theorem obsXG_eq {n : Nat} {fa : List He.Fa} {fn : List He.DefD} {xf : List Xf} {g : Addr → Option Obj} {s : Shared} (h : ∀ a, g a = s.heap.get? a) : obsXG n fa fn xf g = (hookX n fa fn xf).obs s := by
  have e : g = s.heap.get? := funext h
  rw [e] <;> rfl
section
variable {fa : List He.Fa} {fn : List He.DefD} {xf : List Xf} {K : PySem.W.Frag}
theorem SaysX.fact (c : SaysX fa fn xf K) (i : Nat) {f : He.Fa} (h : fa[i]? = some f := by rfl) : f.ok K = true := c.d.fact i h
theorem SaysX.def_ (c : SaysX fa fn xf K) (i : Nat) {d : He.DefD} (h : fn[i]? = some d := by rfl) : ∃ fd, FunD K d.name d.qual d.params d.body d.scope (d.dvs K) (d.kws K) (He.fAd K d.at_) fd := c.d.def_ i h
theorem SaysX.ext (c : SaysX fa fn xf K) (i : Nat) {f : Xf} (h : xf[i]? = some f := by rfl) : f.ok K = true := List.all_eq_true.mp c.x f (List.mem_of_getElem? h)
end
theorem ins_ok {K : PySem.W.Frag} {C : Str} (c : (Xf.ins C).ok K = true) : HasIns K C := by
  obtain ⟨c1, c⟩ := He.ba c
  obtain ⟨c2, c⟩ := He.ba c
  obtain ⟨c3, c4⟩ := He.ba c
  exact ⟨He.eqO_ok c1, He.eqO_ok c2, of_decide_eq_true c3, of_decide_eq_true c4⟩
theorem kit_ok {K : PySem.W.Frag} {C D : Str} {b : Bool} (c : (Xf.kit C D b).ok K = true) : HasKit K C D b := ⟨of_decide_eq_true c⟩
theorem hexc_ok {K : PySem.W.Frag} {C : Str} (c : (Xf.exc C).ok K = true) : HasExc K C := by
  obtain ⟨c1, c⟩ := He.ba c
  obtain ⟨c2, c⟩ := He.ba c
  obtain ⟨c3, c⟩ := He.ba c
  obtain ⟨c4, c⟩ := He.ba c
  obtain ⟨c5, c⟩ := He.ba c
  obtain ⟨c6, c⟩ := He.ba c
  obtain ⟨c7, c8⟩ := He.ba c
  exact ⟨⟨He.eqO_ok c1, He.eqO_ok c2, of_decide_eq_true c3, c4, He.eqO_ok c5, He.eqO_ok c6, of_decide_eq_true c7, of_decide_eq_true c8⟩⟩
theorem kitT_ok {K : PySem.W.Frag} {C : Str} {t : String} {b : Bool} (c : (Xf.kitT C t b).ok K = true) : HasKitT K C t b := ⟨of_decide_eq_true c⟩
theorem hexm_ok {K : PySem.W.Frag} {C D : Str} {b : Bool} (c : (He.Fa.exm C D b).ok K = true) : HasExm K C D b := ⟨He.exm_ok c⟩
local macro_rules
  | `(tactic| walk_at "rfl!") => `(tactic| exact rfl)
local macro_rules
  | `(tactic| walk_at "lk0") => `(tactic| first
    | with_reducible assumption
    | (with_reducible refine' lkF ?a ?b; (case a => with_reducible assumption); (case b => walk_at "sm")))
  | `(tactic| walk_at "ne") => `(tactic| first
    | with_reducible assumption
    | (with_reducible refine' Ne.symm ?a; (case a => with_reducible assumption))
    | (with_reducible refine' ne_of_noneF ?a ?b; (case a => with_reducible assumption); (case b => walk_at "lk0"))
    | (with_reducible refine' Ne.symm (ne_of_noneF ?a ?b); (case a => with_reducible assumption); (case b => walk_at "lk0")))
  | `(tactic| walk_at "nm") => `(tactic| first
    | with_reducible assumption
    | exact id
    | (with_reducible show ¬ (_ = _); walk_at "ne")
    | (with_reducible show ¬ (_ ∨ _); refine' not_or.mpr (And.intro ?a ?b); (case a => walk_at "nm"); (case b => walk_at "nm")))
  | `(tactic| walk_at "lk") => `(tactic| first
    | with_reducible assumption
    | with_reducible exact upd_same
    | (with_reducible refine' lkF ?a ?b; (case a => with_reducible assumption); (case b => walk_at "sm"))
    | (with_reducible refine' SameX.lk ?a ?b ?c; (case a => with_reducible assumption); (case b => walk_at "nm"); (case c => walk_at "lk"))
    | (with_reducible refine' lk_newF ?a ?b; (case a => with_reducible assumption); (case b => walk_at "lk"))
    | (with_reducible refine' lk_mut ?a ?b; (case a => walk_at "ne"); (case b => walk_at "lk")))
  | `(tactic| walk_at "sq") => `(tactic| first
    | with_reducible assumption
    | with_reducible exact sq_of upd_same
    | (with_reducible refine' sq_of ?a; (case a => with_reducible assumption))
    | (with_reducible refine' sqF ?a ?b; (case a => with_reducible assumption); (case b => walk_at "sm"))
    | (with_reducible refine' sqLF ?a ?b; (case a => with_reducible assumption); (case b => walk_at "sm"))
    | (with_reducible refine' SameX.seq ?a ?b ?c; (case a => with_reducible assumption); (case b => walk_at "nm"); (case c => walk_at "sq"))
    | (with_reducible refine' sq_newF ?a ?b; (case a => with_reducible assumption); (case b => walk_at "sq"))
    | (with_reducible refine' sq_of ?a; (case a => walk_at "lk")))
  | `(tactic| walk_at "tq") => `(tactic| first
    | with_reducible assumption
    | with_reducible exact stt_of upd_same
    | (with_reducible refine' stt_of ?a; (case a => with_reducible assumption))
    | (with_reducible refine' tqF ?a ?b; (case a => with_reducible assumption); (case b => walk_at "sm"))
    | (with_reducible refine' tqLF ?a ?b; (case a => with_reducible assumption); (case b => walk_at "sm"))
    | (with_reducible refine' SameX.tup ?a ?b ?c; (case a => with_reducible assumption); (case b => walk_at "nm"); (case c => walk_at "tq"))
    | (with_reducible refine' st_newF ?a ?b; (case a => with_reducible assumption); (case b => walk_at "tq"))
    | (with_reducible refine' stt_of ?a; (case a => walk_at "lk")))
  | `(tactic| walk_at "sm") => `(tactic| first
    | with_reducible assumption
    | with_reducible exact L2.Same.refl _
    | (with_reducible refine' same_newF ?a ?b; (case a => with_reducible assumption); (case b => walk_at "sm"))
    | (with_reducible refine' same_mutF ?a ?b; (case a => with_reducible assumption); (case b => walk_at "sm"))
    | (with_reducible refine' same_transF ?a ?b; (case a => with_reducible assumption); (case b => walk_at "sm")))
  | `(tactic| walk_at "pf") => `(tactic| first
    | exact putF_hit
    | exact putF_nil
    | exact putF_far (by decide) (by walk_at "pf"))
  | `(tactic| walk_at "ix") => `(tactic| (simp only [at0, at1, at2, at3]; exact rfl))
  | `(tactic| walk_at "sz1") => `(tactic| first
    | decide
    | (simp only [List.length_cons, List.length_nil]; decide))
  | `(tactic| walk_at "sz") => `(tactic| first
    | with_reducible assumption
    | (refine Nat.le_trans (m := 1000000) ?_ (by decide); (try simp only [List.length_append, List.length_map, List.length_cons, List.length_nil, List.length_replicate, List.length_reverse, List.length_take, List.length_drop, List.length_set]); omega))
local macro_rules
  | `(tactic| walk_at "m64") => `(tactic| first
    | exact Or.inr ⟨by decide, by decide⟩
    | exact Or.inl ⟨by decide, by decide⟩
    | exact Or.inr ⟨by omega, by omega⟩
    | exact Or.inl ⟨by omega, by omega⟩)
local macro_rules
  | `(tactic| walk_at "go1") => `(tactic| first
    | ((with_reducible refine' g_var ?h ?_); (case h => exact rfl))
    | with_reducible refine g_c ?_
    | with_reducible refine g_op ?_
    | with_reducible refine g_cons ?_
    | with_reducible refine g_nil ?_
    | with_reducible refine g_cb ?_
    | with_reducible refine g_plus ?_
    | with_reducible refine g_minus ?_
    | ((with_reducible refine' g_rest ?h ?_); (case h => decide))
    | ((with_reducible refine' g_mul ?h ?_); (case h => walk_at "m64"))
    | with_reducible refine g_lt ?_
    | with_reducible refine g_le ?_
    | with_reducible refine g_gt ?_
    | with_reducible refine g_ge ?_
    | with_reducible refine g_same ?_
    | with_reducible refine g_diff ?_
    | with_reducible refine g_sameS ?_
    | with_reducible refine g_diffS ?_
    | with_reducible refine g_test ?_
    | with_reducible refine g_ebl ?_
    | with_reducible refine g_eint ?_
    | with_reducible refine g_tru ?_
    | with_reducible refine g_truB ?_
    | with_reducible refine g_seq ?_
    | with_reducible refine g_next ?_
    | with_reducible refine g_asg ?_
    | with_reducible refine g_asgT ?_
    | with_reducible refine g_gcons ?_
    | with_reducible refine g_gname ?_
    | with_reducible refine g_gnil ?_
    | with_reducible refine g_gsub ?_
    | ((with_reducible refine' g_gtup ?h ?i ?_); (case h => walk_at "tq"); (case i => exact rfl))
    | with_reducible refine g_p15 ?_
    | with_reducible refine g_p30 ?_
    | with_reducible refine g_sh15 ?_
    | with_reducible refine g_sh16 ?_
    | with_reducible refine g_sh23 ?_
    | with_reducible refine g_sh24 ?_
    | with_reducible refine g_sh40 ?_
    | with_reducible refine g_sh48 ?_
    | with_reducible refine g_p60 ?_
    | ((with_reducible refine' g_floor ?h ?_); (case h => exact ⟨by decide, by decide⟩))
    | ((with_reducible refine' g_asgn ?h ?_); (case h => repeat (first | exact SetR.zero | apply SetR.succ)))
    | with_reducible refine g_if ?_
    | with_reducible refine g_ret ?_
    | with_reducible refine g_retN ?_
    | with_reducible refine g_drop ?_
    | with_reducible refine g_and ?_
    | with_reducible refine g_or ?_
    | with_reducible refine g_not ?_
    | with_reducible refine g_andV ?_
    | with_reducible refine g_orV ?_
    | with_reducible refine g_notV ?_
    | with_reducible refine g_ifT ?_
    | with_reducible refine g_ifF ?_
    | with_reducible refine g_ifNT ?_
    | with_reducible refine g_ifNF ?_
    | with_reducible refine g_fun ?_
    | with_reducible refine g_new ?_
    | with_reducible refine g_on1 ?_
    | with_reducible refine g_on2 ?_
    | with_reducible refine g_on3 ?_
    | with_reducible refine g_on4 ?_
    | with_reducible refine g_bm ?_
    | with_reducible refine g_m1 ?_
    | with_reducible refine g_k1 ?_
    | with_reducible refine g_m2 ?_
    | with_reducible refine g_k2 ?_
    | with_reducible refine g_m3 ?_
    | with_reducible refine g_k3 ?_
    | with_reducible refine g_m4 ?_
    | with_reducible refine g_k4 ?_
    | with_reducible refine g_m5 ?_
    | with_reducible refine g_k5 ?_
    | with_reducible refine g_bm0 ?_
    | with_reducible refine g_fld ?_
    | with_reducible refine g_sto ?_
    | ((with_reducible refine' g_aug ?h ?_); (case h => exact rfl))
    | with_reducible refine g_ip ?_
    | with_reducible refine g_lst ?_
    | with_reducible refine g_tup ?_
    | ((with_reducible refine' g_lstK ?h ?_); (case h => walk_at "sz"))
    | ((with_reducible refine' g_tupK ?h ?_); (case h => walk_at "sz"))
    | with_reducible refine g_un ?_
    | with_reducible refine g_forL ?_
    | with_reducible refine g_forT ?_
    | with_reducible refine g_forR1 ?_
    | with_reducible refine g_forR2 ?_
    | with_reducible refine g_forE ?_
    | with_reducible refine g_forZ ?_
    | with_reducible refine g_lcZ ?_
    | with_reducible refine g_forR3 ?_
    | with_reducible refine g_lcR3 ?_
    | with_reducible refine g_mask1 ?_
    | with_reducible refine g_lcL ?_
    | with_reducible refine g_lcT ?_
    | with_reducible refine g_lcR1 ?_
    | with_reducible refine g_neg ?_
    | with_reducible refine g_sl ?_
    | with_reducible refine g_part ?_
    | with_reducible refine g_nopart ?_
    | with_reducible refine g_chain ?_
    | with_reducible refine g_rz ?_
    | with_reducible refine g_isno ?_
    | with_reducible refine g_notno ?_
    | with_reducible refine g_max2 ?_
    | with_reducible refine g_min2 ?_
    | with_reducible refine g_intI ?_
    | with_reducible refine g_intB ?_
    | with_reducible refine g_bits ?_
    | with_reducible refine g_B ?_
    | with_reducible refine g_dget ?_
    | with_reducible refine g_din ?_
    | with_reducible refine g_dnotin ?_
    | with_reducible refine g_mthd ?_
    | with_reducible refine g_fldaug ?_
    | with_reducible refine g_iadd ?_
    | with_reducible refine g_isub ?_
    | with_reducible refine g_whK ?_
    | ((with_reducible refine' g_fldA ?h ?i ?c ?o ?_); (case h => walk_at "lk"); (case i => exact rfl); (case c => infer_instance); (case o => infer_instance))
    | ((with_reducible refine' g_stoU ?i ?e ?c ?o ?_); (case i => walk_at "sz1"); (case e => walk_at "pf"); (case c => infer_instance); (case o => infer_instance))
    | ((with_reducible refine' g_stoA ?h ?i ?e ?c ?o ?_); (case h => walk_at "lk"); (case i => walk_at "sz1"); (case e => walk_at "pf"); (case c => infer_instance); (case o => infer_instance))
    | ((with_reducible refine' g_augA ?h ?i ?c ?o ?_); (case h => walk_at "lk"); (case i => exact rfl); (case c => infer_instance); (case o => infer_instance))
    | ((with_reducible refine' g_putU ?i ?e ?_); (case i => walk_at "sz1"); (case e => walk_at "pf"))
    | ((with_reducible refine' g_putA ?h ?i ?e ?_); (case h => walk_at "lk"); (case i => walk_at "sz1"); (case e => walk_at "pf"))
    | ((with_reducible refine' g_one ?h ?i ?_); (case h => walk_at "lk"); (case i => exact rfl))
    | ((with_reducible refine' g_ixL ?h ?i ?_); (case h => walk_at "sq"); (case i => walk_at "ix"))
    | ((with_reducible refine' g_ixT ?h ?i ?_); (case h => walk_at "tq"); (case i => walk_at "ix"))
    | ((with_reducible refine' g_tyL ?h ?_); (case h => walk_at "sq"))
    | with_reducible refine g_tyS ?_
    | ((with_reducible refine' g_lenL ?h ?_); (case h => walk_at "sq"))
    | ((with_reducible refine' g_lenT ?h ?_); (case h => walk_at "tq"))
    | ((with_reducible refine' g_listL ?h ?_); (case h => walk_at "sq"))
    | ((with_reducible refine' g_listT ?h ?_); (case h => walk_at "tq"))
    | ((with_reducible refine' g_tupleL ?h ?_); (case h => walk_at "sq"))
    | ((with_reducible refine' g_slL ?h ?_); (case h => walk_at "sq"))
    | ((with_reducible refine' g_append ?h ?i ?_); (case h => walk_at "lk"); (case i => walk_at "sz"))
    | ((with_reducible refine' g_reverse ?h ?_); (case h => walk_at "lk"))
    | ((with_reducible refine' g_clear ?h ?_); (case h => walk_at "lk"))
    | ((with_reducible refine' g_cat ?h ?i ?j ?_); (case h => walk_at "lk"); (case i => walk_at "lk"); (case j => walk_at "sz")))
local macro_rules
  | `(tactic| walk_at "go") => `(tactic| repeat walk_at "go1")
/-! numbers: a cell of the script; what is whole, a bit, a chance, a sign -/
def cell (ns : List Int) (k : Nat) : Int := ns.getD k 0
theorem ix_ints {ns : List Int} {k : Nat} (h : k < ns.length) : atI (ns.map V.int) (k : Int) = some (.int (ns.getD k 0)) := by
  refine atI_nat ?_
  rw [List.getElem?_map, List.getElem?_eq_getElem h, List.getD_eq_getElem?_getD, List.getElem?_eq_getElem h]
  rfl
def F_Lcell_at (K : PySem.W.Frag) : V → V → Hp → VK → XK → Prop := fun x y H Q _ => ∃ (a : Addr) (ns : List Int) (k : Nat), x = .ref a ∧ y = .int k ∧ SqL K H a (ns.map V.int) ∧ Q (.int (cell ns k)) H
abbrev sp_Lcell_at (K : PySem.W.Frag) : Sp := on2 (F_Lcell_at K)
def t_Lcell_at (K : PySem.W.Frag) (E : XK) : TS :=
  tSeq (tIfS (tTest (tOp (iLt) (tVar 1) (tCB (rLength K) (tCons (tVar 0) (tNil))))) (tRet (tOp (rIx K) (tVar 0) (tVar 1))) (tNext))
  (tRet (tC (.int 0)))
theorem pure_Lcell_at (K : PySem.W.Frag) {x y : V} {H : Hp} {Q : VK} {E : XK} (h : F_Lcell_at K x y H Q E) : t_Lcell_at K E ⟨fun _ H' => Q .non H', Q, fun _ _ => False, fun _ _ => False⟩ [some x, some y] H := by
  obtain ⟨a, ns, k, rfl, rfl, hs, q⟩ := h
  unfold t_Lcell_at
  walk_at "go"
  rw [List.length_map]
  refine dif (fun h => ?_) (fun h => ?_)
  · walk_at "go"
    exact g_ixL hs (ix_ints (by omega)) q
  · walk_at "go"
    have e : cell ns k = 0 := by
      unfold cell
      rw [List.getD_eq_getElem?_getD, List.getElem?_eq_none (by omega)]
      rfl
    rw [← e]
    exact q
/-- an int, and no truth -/
def wholeV : V → Bool
  | .int _ => true
  | _ => false
def TyW (K : PySem.W.Frag) (H : Hp) (x : V) : Prop := (∃ i, x = .int i) ∨ (∃ b, x = .bl b) ∨ (wholeV x = false ∧ ∃ tn, TyX K H x (.type tn) ∧ kitB tn "int" = some false)
def F_Lwhole (K : PySem.W.Frag) : V → Hp → VK → XK → Prop := fun x H Q _ => TyW K H x ∧ Q (.bl (wholeV x)) H
abbrev sp_Lwhole (K : PySem.W.Frag) : Sp := on1 (F_Lwhole K)
abbrev F_is_whole (K : PySem.W.Frag) : V → Hp → VK → XK → Prop := F_Lwhole K
abbrev sp_is_whole (K : PySem.W.Frag) : Sp := on1 (F_is_whole K)
def t_is_whole (K : PySem.W.Frag) (E : XK) : TS :=
  tRet (tAndV (tCB (rIsi2 K) (tCons (tVar 0) (tCons (tC (.ty "int")) (tNil)))) (tNotV (tCB (rIsi2 K) (tCons (tVar 0) (tCons (tC (.ty "bool")) (tNil))))))
theorem pure_is_whole (K : PySem.W.Frag) {x : V} {H : Hp} {Q : VK} {E : XK} (h : F_is_whole K x H Q E) : t_is_whole K E ⟨fun _ H' => Q .non H', Q, fun _ _ => False, fun _ _ => False⟩ [some x] H := by
  obtain ⟨ty, q⟩ := h
  unfold t_is_whole
  walk_at "go"
  rcases ty with ⟨i, rfl⟩ | ⟨b, rfl⟩ | ⟨e, tn, ty, hk⟩
  · refine g_isi (s := "") (tn := "int") (.base (.int i)) (b := true) (by decide +kernel) ?_
    walk_at "go"
    refine g_isi (s := "") (tn := "int") (.base (.int i)) (b := false) (by decide +kernel) ?_
    walk_at "go"
    exact q
  · refine g_isi (s := "") (tn := "bool") (.base (.bl b)) (b := true) (by decide +kernel) ?_
    walk_at "go"
    refine g_isi (s := "") (tn := "bool") (.base (.bl b)) (b := true) (by decide +kernel) ?_
    walk_at "go"
    exact q
  · refine g_isi (s := "") ty hk ?_
    walk_at "go"
    rw [e] at q
    exact q
/-- from a to b -/
def btw (a b : Int) : V → Bool
  | .int i => decide (a ≤ i) && decide (i ≤ b)
  | _ => false
theorem TyW.cases {K : PySem.W.Frag} {H : Hp} {x : V} (h : TyW K H x) : (∃ i, x = .int i) ∨ (wholeV x = false ∧ ∀ a b, btw a b x = false) := by
  rcases h with h | ⟨b, rfl⟩ | ⟨e, _⟩
  · exact .inl h
  · exact .inr ⟨rfl, fun _ _ => rfl⟩
  · refine .inr ⟨e, fun a b => ?_⟩
    cases x with
    | int i => cases e
    | _ => rfl
theorem TyW.int {K : PySem.W.Frag} {H : Hp} {i : Int} : TyW K H (.int i) := .inl ⟨i, rfl⟩
theorem TyW.same {K : PySem.W.Frag} {H H1 : Hp} {x : V} (s : ∀ tn, TyX K H x (.type tn) → TyX K H1 x (.type tn)) (h : TyW K H x) : TyW K H1 x := by
  rcases h with h | h | ⟨e, tn, t, k⟩
  · exact .inl h
  · exact .inr (.inl h)
  · exact .inr (.inr ⟨e, tn, s tn t, k⟩)
theorem btw_int {a b : Int} {x : V} (h : btw a b x = true) : ∃ i, x = .int i ∧ a ≤ i ∧ i ≤ b := by
  cases x with
  | int i =>
    rw [btw, Bool.and_eq_true, decide_eq_true_iff, decide_eq_true_iff] at h
    exact ⟨i, rfl, h⟩
  | _ => cases h
theorem tyx_same {K : PySem.W.Frag} {H H1 : Hp} {x : V} {t : Value} (s : Same H H1) (h : TyX K H x t) : TyX K H1 x t := by
  cases h with
  | base h =>
    refine .base ?_
    cases h with
    | non => exact .non
    | bl x => exact .bl x
    | int i => exact .int i
    | str x => exact .str x
    | flt x => exact .flt x
    | lst e => exact .lst (s _ _ e)
    | frz e => exact .frz (s _ _ e)
    | tup e => exact .tup (s _ _ e)
    | dK e => exact .dK (s _ _ e)
    | dT e => exact .dT (s _ _ e)
    | ins e c a b d m => exact .ins (s _ _ e) c a b d m
  | byt b => exact .byt b
  | set e => exact .set (s _ _ e)
  | kList e c => exact .kList e c
  | kTuple e c => exact .kTuple e c
  | kDict e c => exact .kDict e c
  | fTuple e => exact .fTuple (s _ _ e)
  | fDict e => exact .fDict (s _ _ e)
theorem tyw_same {K : PySem.W.Frag} {H H1 : Hp} {x : V} (s : Same H H1) (h : TyW K H x) : TyW K H1 x := h.same fun _ => tyx_same s
theorem ifB {A B : Prop} {b : Bool} (h1 : b = true → A) (h2 : b = false → B) : if b = true then A else B := difB h1 h2
def F_btw (K : PySem.W.Frag) (a b : Int) : V → Hp → VK → XK → Prop := fun x H Q _ => TyW K H x ∧ Q (.bl (btw a b x)) H
abbrev sp_is_bit (K : PySem.W.Frag) : Sp := on1 (F_btw K 0 1)
abbrev sp_is_chance (K : PySem.W.Frag) : Sp := on1 (F_btw K 32768 16744448)
def t_is_bit (K : PySem.W.Frag) (E : XK) : TS :=
  tRet (tAndV (tFun (sp_is_whole K) [] (fun _ => E) (tCons (tVar 0) (tNil))) (tChain (rLe) (rLe) (tC (.int 0)) (tVar 0) (tC (.int 1))))
theorem pure_is_bit (K : PySem.W.Frag) {x : V} {H : Hp} {Q : VK} {E : XK} (h : F_btw K 0 1 x H Q E) : t_is_bit K E ⟨fun _ H' => Q .non H', Q, fun _ _ => False, fun _ _ => False⟩ [some x] H := by
  obtain ⟨ty, q⟩ := h
  unfold t_is_bit
  walk_at "go"
  refine ⟨ty, ?_⟩
  rcases ty.cases with ⟨i, rfl⟩ | ⟨e1, e2⟩
  · walk_at "go"
    refine g_ifT ?_
    walk_at "go"
    refine dif (fun h => ?_) fun h => ?_
    · walk_at "go"
      rwa [btw, decide_eq_true h, Bool.true_and] at q
    · rwa [btw, decide_eq_false h, Bool.false_and] at q
  · rw [e1]
    rw [e2] at q
    walk_at "go"
    exact q
def t_is_chance (K : PySem.W.Frag) (E : XK) : TS :=
  tRet (tAndV (tFun (sp_is_whole K) [] (fun _ => E) (tCons (tVar 0) (tNil))) (tChain (rLe) (rLe) (tC (.int 32768)) (tVar 0) (tOp (rMinus) (tC (.int 16777216)) (tC (.int 32768)))))
theorem pure_is_chance (K : PySem.W.Frag) {x : V} {H : Hp} {Q : VK} {E : XK} (h : F_btw K 32768 16744448 x H Q E) : t_is_chance K E ⟨fun _ H' => Q .non H', Q, fun _ _ => False, fun _ _ => False⟩ [some x] H := by
  obtain ⟨ty, q⟩ := h
  unfold t_is_chance
  walk_at "go"
  refine ⟨ty, ?_⟩
  rcases ty.cases with ⟨i, rfl⟩ | ⟨e1, e2⟩
  · walk_at "go"
    refine g_ifT ?_
    walk_at "go"
    refine dif (fun h => ?_) fun h => ?_
    · walk_at "go"
      rwa [btw, decide_eq_true h, Bool.true_and] at q
    · rwa [btw, decide_eq_false h, Bool.false_and] at q
  · rw [e1]
    rw [e2] at q
    walk_at "go"
    exact q
abbrev sp_is_sign (K : PySem.W.Frag) : Sp := on1 (F_btw K 0 255)
def t_is_sign (K : PySem.W.Frag) (E : XK) : TS :=
  tRet (tAndV (tFun (sp_is_whole K) [] (fun _ => E) (tCons (tVar 0) (tNil))) (tChain (rLe) (rLe) (tC (.int 0)) (tVar 0) (tC (.int 255))))
theorem pure_is_sign (K : PySem.W.Frag) {x : V} {H : Hp} {Q : VK} {E : XK} (h : F_btw K 0 255 x H Q E) : t_is_sign K E ⟨fun _ H' => Q .non H', Q, fun _ _ => False, fun _ _ => False⟩ [some x] H := by
  obtain ⟨ty, q⟩ := h
  unfold t_is_sign
  walk_at "go"
  refine ⟨ty, ?_⟩
  rcases ty.cases with ⟨i, rfl⟩ | ⟨e1, e2⟩
  · walk_at "go"
    refine g_ifT ?_
    walk_at "go"
    refine dif (fun h => ?_) fun h => ?_
    · walk_at "go"
      rwa [btw, decide_eq_true h, Bool.true_and] at q
    · rwa [btw, decide_eq_false h, Bool.false_and] at q
  · rw [e1]
    rw [e2] at q
    walk_at "go"
    exact q
/-- what a check hands on, what it refuses -/
def F_chk (K : PySem.W.Frag) (a b : Int) (C : Str) : V → Hp → VK → XK → Prop := fun x H Q E => TyW K H x ∧ (btw a b x = true → Q x H) ∧ (btw a b x = false → E (.ref (He.ga K C)) none H)
abbrev sp_checked_bit (K : PySem.W.Frag) : Sp := on1 (F_chk K 0 1 "NoBit")
abbrev sp_checked_chance (K : PySem.W.Frag) : Sp := on1 (F_chk K 32768 16744448 "NoChance")
theorem chk_int {K : PySem.W.Frag} {a b i : Int} {C : Str} {H : Hp} {Q : VK} {E : XK} (h : a ≤ i ∧ i ≤ b) (q : Q (.int i) H) : F_chk K a b C (.int i) H Q E :=
  ⟨.int, fun _ => q, fun e => by rw [btw, decide_eq_true h.1, decide_eq_true h.2] at e; cases e⟩
def t_checked_bit (K : PySem.W.Frag) (E : XK) : TS :=
  tSeq (tIfS (tNot (tTru K (tFun (sp_is_bit K) [] (fun _ => E) (tCons (tVar 0) (tNil))))) (tRz (fun cls d _ H => E cls d H) (He.ga K "NoBit")) (tNext))
  (tRet (tVar 0))
theorem pure_checked_bit (K : PySem.W.Frag) {x : V} {H : Hp} {Q : VK} {E : XK} (h : F_chk K 0 1 "NoBit" x H Q E) : t_checked_bit K E ⟨fun _ H' => Q .non H', Q, fun _ _ => False, fun _ _ => False⟩ [some x] H := by
  obtain ⟨ty, q, r⟩ := h
  unfold t_checked_bit
  walk_at "go"
  refine ⟨ty, ?_⟩
  walk_at "go"
  refine difNB (fun h => ?_) fun h => ?_
  · walk_at "go"
    exact r h
  · walk_at "go"
    exact q h
def t_checked_chance (K : PySem.W.Frag) (E : XK) : TS :=
  tSeq (tIfS (tNot (tTru K (tFun (sp_is_chance K) [] (fun _ => E) (tCons (tVar 0) (tNil))))) (tRz (fun cls d _ H => E cls d H) (He.ga K "NoChance")) (tNext))
  (tRet (tVar 0))
theorem pure_checked_chance (K : PySem.W.Frag) {x : V} {H : Hp} {Q : VK} {E : XK} (h : F_chk K 32768 16744448 "NoChance" x H Q E) : t_checked_chance K E ⟨fun _ H' => Q .non H', Q, fun _ _ => False, fun _ _ => False⟩ [some x] H := by
  obtain ⟨ty, q, r⟩ := h
  unfold t_checked_chance
  walk_at "go"
  refine ⟨ty, ?_⟩
  walk_at "go"
  refine difNB (fun h => ?_) fun h => ?_
  · walk_at "go"
    exact r h
  · walk_at "go"
    exact q h
def gave (c b : Int) : Int := if b = 1 then c else 16777216 - c
def F_gives (K : PySem.W.Frag) : V → V → Hp → VK → XK → Prop := fun x y H Q E => TyW K H x ∧ TyW K H y ∧ (btw 32768 16744448 x = false → E (.ref (He.ga K "NoChance")) none H) ∧ (btw 32768 16744448 x = true → btw 0 1 y = false → E (.ref (He.ga K "NoBit")) none H) ∧
  (∀ c b : Int, x = .int c → y = .int b → 32768 ≤ c → c ≤ 16744448 → 0 ≤ b → b ≤ 1 → Q (.int (gave c b)) H)
abbrev sp_gives (K : PySem.W.Frag) : Sp := on2 (F_gives K)
theorem gives_of {K : PySem.W.Frag} {H : Hp} {Q : VK} {E : XK} {c b : Int} (hc : 32768 ≤ c ∧ c ≤ 16744448) (hb : 0 ≤ b ∧ b ≤ 1) (q : Q (.int (gave c b)) H) : F_gives K (.int c) (.int b) H Q E := by
  have bt : ∀ {u v i : Int}, u ≤ i ∧ i ≤ v → btw u v (.int i) = true := fun h => by rw [btw, decide_eq_true h.1, decide_eq_true h.2]; rfl
  refine ⟨.int, .int, fun k => ?_, fun _ k => ?_, fun c' b' e1 e2 _ _ _ _ => ?_⟩
  · rw [bt hc] at k; cases k
  · rw [bt hb] at k; cases k
  · cases e1
    cases e2
    exact q
/-! a step: a chance, a bit, of a cell -/
def stepC (n : Int) : Int :=
  let m := n % 1000000000000000
  if m / 2 % 7 < 3 then (if m / 2 % 7 = 0 then 32768 else if m / 2 % 7 = 1 then 16744448 else 8388608) else 32768 + ((m * m + 5 * m + 11) * 48271 % 2147483647) % 16711681
def stepB (n : Int) : Int := n % 1000000000000000 % 2
theorem stepC_ok (n : Int) : 32768 ≤ stepC n ∧ stepC n ≤ 16744448 := by
  unfold stepC
  simp only []
  split
  · split
    · decide
    · split <;> decide
  · omega
theorem stepB_ok (n : Int) : 0 ≤ stepB n ∧ stepB n ≤ 1 := by unfold stepB; omega
def F_Lstep (K : PySem.W.Frag) : V → Hp → VK → XK → Prop := fun x H Q _ => ∃ n : Int, x = .int n ∧ ∀ p H', H p = none → Same H H' → H' p = some (.tup [.int (stepC n), .int (stepB n)]) → Q (.ref p) H'
abbrev sp_Lstep (K : PySem.W.Frag) : Sp := on1 (F_Lstep K)
def t_Lstep (K : PySem.W.Frag) (E : XK) : TS :=
  tSeq (tAsg (tOp (rRest) (tVar 0) (tOp (rPow) (tC (.int 10)) (tC (.int 15)))) (gName 0))
  (tSeq (tAsg (tOp (rRest) (tOp (rTimes) (tOp (rPlus K) (tOp (rPlus K) (tOp (rTimes) (tVar 0) (tVar 0)) (tOp (rTimes) (tC (.int 5)) (tVar 0))) (tC (.int 11))) (tC (.int 48271))) (tC (.int 2147483647))) (gName 1))
  (tSeq (tAsg (tOp (rRest) (tOp (rFloor) (tVar 0) (tC (.int 2))) (tC (.int 7))) (gName 2))
  (tSeq (tIfS (tTest (tOp (iLt) (tVar 2) (tC (.int 3)))) (tRet (tTup (tCons (tOp (rIx K) (tLst (tCons (tC (.int 32768)) (tCons (tC (.int 16744448)) (tCons (tC (.int 8388608)) (tNil))))) (tVar 2)) (tCons (tOp (rRest) (tVar 0) (tC (.int 2))) (tNil))))) (tNext))
  (tRet (tTup (tCons (tOp (rPlus K) (tC (.int 32768)) (tOp (rRest) (tVar 1) (tC (.int 16711681)))) (tCons (tOp (rRest) (tVar 0) (tC (.int 2))) (tNil))))))))
theorem pure_Lstep (K : PySem.W.Frag) {x : V} {H : Hp} {Q : VK} {E : XK} (h : F_Lstep K x H Q E) : t_Lstep K E ⟨fun _ H' => Q .non H', Q, fun _ _ => False, fun _ _ => False⟩ [some x, none, none] H := by
  obtain ⟨n, rfl, q⟩ := h
  have k0 : 0 ≤ n % 1000000000000000 := by omega
  have k1 : n % 1000000000000000 < 1000000000000000 := by omega
  unfold t_Lstep
  walk_at "go"
  refine dif (fun h => ?_) fun h => ?_
  · walk_at "go"
    intro l nl
    walk_at "go"
    have e : atI [V.int 32768, V.int 16744448, V.int 8388608] (n % 1000000000000000 / 2 % 7) = some (.int (stepC n)) := by
      unfold stepC
      simp only []
      rw [if_pos h]
      have : n % 1000000000000000 / 2 % 7 = 0 ∨ n % 1000000000000000 / 2 % 7 = 1 ∨ n % 1000000000000000 / 2 % 7 = 2 := by omega
      rcases this with e | e | e <;> rw [e] <;> rfl
    refine g_ixL (by walk_at "sq") e ?_
    walk_at "go"
    intro p np
    exact q p _ (upd_none np) (by walk_at "sm") upd_same
  · walk_at "go"
    intro p np
    refine q p _ np (by walk_at "sm") ?_
    rw [upd_same]
    unfold stepC
    simp only []
    rw [if_neg h]
    rfl
/-! texts, decisions, nodes -/
/-- whether x is a list of at most m signs -/
inductive SgT (K : PySem.W.Frag) (H : Hp) (m : Nat) : V → Bool → Prop
  | lst {a : Addr} {xs : List V} (e : H a = some (.lst xs)) (l : xs.length ≤ 1000000) (t : ∀ v ∈ xs, TyW K H v) : SgT K H m (.ref a) (decide (xs.length ≤ m) && xs.all (btw 0 255))
  | other {x : V} {tn : String} (t : TyX K H x (.type tn)) (k : kitB tn "list" = some false) : SgT K H m x false
structure TextOk (m : Nat) (ns : List Int) : Prop where
  len : ns.length ≤ m
  all : ∀ z ∈ ns, 0 ≤ z ∧ z ≤ 255
theorem all_ints : ∀ {xs : List V}, xs.all (btw 0 255) = true → ∃ ns : List Int, xs = ns.map V.int ∧ ∀ z ∈ ns, 0 ≤ z ∧ z ≤ 255
  | [], _ => ⟨[], rfl, fun z h => nomatch h⟩
  | x :: xs, h => by
    rw [List.all_cons, Bool.and_eq_true] at h
    obtain ⟨ns, rfl, hn⟩ := all_ints h.2
    obtain ⟨i, rfl, hi⟩ := btw_int h.1
    refine ⟨i :: ns, rfl, fun z hz => ?_⟩
    rcases List.mem_cons.mp hz with rfl | hz
    · exact hi
    · exact hn z hz
theorem SgT.yes {K : PySem.W.Frag} {H : Hp} {m : Nat} {x : V} (h : SgT K H m x true) : ∃ a ns, x = .ref a ∧ H a = some (.lst (ns.map V.int)) ∧ TextOk m ns := by
  generalize hb : true = b at h
  cases h with
  | @lst a xs e l t =>
    have hb := hb.symm
    rw [Bool.and_eq_true, decide_eq_true_iff] at hb
    obtain ⟨ns, rfl, hn⟩ := all_ints hb.2
    exact ⟨a, ns, rfl, e, ⟨by simpa using hb.1, hn⟩⟩
  | other t k => cases hb
theorem SgT.of {K : PySem.W.Frag} {H : Hp} {m : Nat} {a : Addr} {ns : List Int} (e : H a = some (.lst (ns.map V.int))) (t : TextOk m ns) (hm : m ≤ 1000000) : SgT K H m (.ref a) true := by
  have k := SgT.lst (K := K) (m := m) e (by rw [List.length_map]; exact Nat.le_trans t.len hm) (fun v hv => by
    obtain ⟨z, _, rfl⟩ := List.mem_map.mp hv
    exact .int)
  have c : (ns.map V.int).all (btw 0 255) = true := by
    rw [List.all_map]
    refine List.all_eq_true.mpr fun z hz => ?_
    show btw 0 255 (.int z) = true
    rw [btw, decide_eq_true (t.all z hz).1, decide_eq_true (t.all z hz).2]
    rfl
  rw [c, decide_eq_true (by rw [List.length_map]; exact t.len)] at k
  exact k
def F_are_signs (K : PySem.W.Frag) : V → V → Hp → VK → XK → Prop := fun x y H Q _ => ∃ (m : Nat) (b : Bool), y = .int m ∧ SgT K H m x b ∧ ∀ H', Same H H' → Q (.bl b) H'
abbrev sp_are_signs (K : PySem.W.Frag) : Sp := on2 (F_are_signs K)
def t_are_signs (K : PySem.W.Frag) (E : XK) : TS :=
  tSeq (tIfS (tOr (tNot (tTru K (tCB (rIsi2 K) (tCons (tVar 0) (tCons (tC (.ty "list")) (tNil)))))) (tTest (tOp (iGt) (tCB (rLength K) (tCons (tVar 0) (tNil))) (tVar 1)))) (tRet (tC (.bl false))) (tNext))
  (tRet (tCB (rAll K) (tCons (tLc (iList K (tVar 0)) (gName 2) (tYes) (tFun (sp_is_sign K) [] (fun _ => E0) (tCons (tVar 2) (tNil))) [2]) (tNil))))
theorem pure_are_signs (K : PySem.W.Frag) {x y : V} {H : Hp} {Q : VK} {E : XK} (h : F_are_signs K x y H Q E) : t_are_signs K E ⟨fun _ H' => Q .non H', Q, fun _ _ => False, fun _ _ => False⟩ [some x, some y, none] H := by
  obtain ⟨m, b, rfl, S, q⟩ := h
  unfold t_are_signs
  walk_at "go"
  cases S with
  | @lst a xs e l t =>
    refine g_isi (s := "") (tn := "list") (.base (.lst e)) (b := true) (by decide +kernel) ?_
    walk_at "go"
    refine dif (fun h => ?_) fun h => ?_
    · rw [decide_eq_false (by omega), Bool.false_and] at q
      walk_at "go"
      exact q _ (Same.refl _)
    · rw [decide_eq_true (by omega), Bool.true_and] at q
      walk_at "go"
      refine lc_L (sq_of e) (fun v => .bl (btw 0 255 v)) l (fun v hv D H2 Q2 s2 k => ?_) fun D H2 nD s2 eD => ?_
      · walk_at "go"
        exact ⟨tyw_same s2 (t v hv), k _ (Same.refl _)⟩
      · walk_at "go"
        refine g_all (bs := xs.map (btw 0 255)) (sq_of (by rw [eD, List.map_map]; rfl)) ?_
        have : (xs.map (btw 0 255)).all id = xs.all (btw 0 255) := by rw [List.all_map]; rfl
        rw [this]
        exact q _ s2
  | other t k =>
    refine g_isi (s := "") t k ?_
    walk_at "go"
    exact q _ (Same.refl _)
/-- a checked list of signs: handed on as a new one, or refused by the class C -/
def F_signs (K : PySem.W.Frag) (m : Nat) (C : Str) : V → Hp → VK → XK → Prop := fun x H Q E => ∃ b : Bool, SgT K H m x b ∧ (b = false → ∀ H', Same H H' → E (.ref (He.ga K C)) none H') ∧
  (b = true → ∀ a ns, x = .ref a → H a = some (.lst (ns.map V.int)) → TextOk m ns → ∀ l H', H l = none → Same H H' → H' l = some (.lst (ns.map V.int)) → Q (.ref l) H')
abbrev sp_checked_text (K : PySem.W.Frag) : Sp := on1 (F_signs K 1000 "NoText")
abbrev sp_checked_bytes (K : PySem.W.Frag) : Sp := on1 (F_signs K 12000 "NoBytes")
def t_checked_bytes (K : PySem.W.Frag) (E : XK) : TS :=
  tSeq (tIfS (tNot (tTru K (tFun (sp_are_signs K) [] (fun _ => E) (tCons (tVar 0) (tCons (tC (.int 12000)) (tNil)))))) (tRz (fun cls d _ H => E cls d H) (He.ga K "NoBytes")) (tNext))
  (tRet (tCB (rListOf K) (tCons (tVar 0) (tNil))))
theorem pure_checked_bytes (K : PySem.W.Frag) {x : V} {H : Hp} {Q : VK} {E : XK} (h : F_signs K 12000 "NoBytes" x H Q E) : t_checked_bytes K E ⟨fun _ H' => Q .non H', Q, fun _ _ => False, fun _ _ => False⟩ [some x] H := by
  obtain ⟨b, S, r, q⟩ := h
  unfold t_checked_bytes
  walk_at "go"
  refine ⟨12000, b, rfl, S, fun H1 s1 => ?_⟩
  walk_at "go"
  refine difNB (fun h => ?_) fun h => ?_
  · walk_at "go"
    exact r h _ s1
  · subst h
    obtain ⟨a, ns, rfl, e, t⟩ := S.yes
    have e1 := s1 _ _ e
    walk_at "go"
    intro l nl
    exact q rfl a ns rfl e t l _ (s1.free nl) (same_new s1 nl) upd_same
theorem signs_of' {K : PySem.W.Frag} {m : Nat} {C : Str} {H : Hp} {Q : VK} {E : XK} {a : Addr} {ns : List Int} (e : H a = some (.lst (ns.map V.int))) (t : TextOk m ns) (hm : m ≤ 1000000) (q : ∀ l H', H l = none → Same H H' → H' l = some (.lst (ns.map V.int)) → Q (.ref l) H') : F_signs K m C (.ref a) H Q E := by
  refine ⟨true, SgT.of e t hm, (fun h => nomatch h), fun _ a' ns' ea e' _ => ?_⟩
  cases ea
  have := HO.lst.inj (Option.some.inj (e.symm.trans e'))
  rw [← this]
  exact q
/-! a span: lowest number, width, how many bytes -/
abbrev Ends3 := Int × Int × Int
def spanF (e : Ends3) : List (Str × V) := [("low", .int e.1), ("width", .int e.2.1), ("size", .int e.2.2)]
def endV (e : Ends3) : List V := [.int e.1, .int e.2.1, .int e.2.2]
def nrm : Nat → Int → Int → Int → Ends3
  | 0, l, w, s => (l, w, s)
  | m + 1, l, w, s => if w < 4294967296 then nrm m (l * 256) (w * 256) (s + 1) else (l, w, s)
def cutOf (e : Ends3) (c : Int) : Int := e.2.1 * c / 16777216
def nar (e : Ends3) (c b : Int) : Ends3 := if b = 1 then nrm 5 e.1 (cutOf e c) e.2.2 else nrm 5 (e.1 + cutOf e c) (e.2.1 - cutOf e c) e.2.2
/-- a span behind at most n narrowings -/
structure WSp (n : Nat) (e : Ends3) : Prop where
  lo : 0 ≤ e.1
  wi : 4294967296 ≤ e.2.1
  wi2 : e.2.1 < 2 ^ 40 + 1
  si : 5 ≤ e.2.2
  si2 : e.2.2 ≤ 5 + 5 * (n : Int)
  fit : e.1 + e.2.1 ≤ 256 ^ e.2.2.toNat
/-- amid the putting right -/
structure WMid (m n : Nat) (l w s : Int) : Prop where
  lo : 0 ≤ l
  wi : 1 ≤ w
  wi2 : w < 2 ^ 40 + 1
  big : 4294967296 ≤ w * 256 ^ m
  si : 5 ≤ s
  si2 : s + (m : Int) ≤ 10 + 5 * (n : Int)
  fit : l + w ≤ 256 ^ s.toNat
theorem WMid.next {m n : Nat} {l w s : Int} (h : WMid (m + 1) n l w s) (k : w < 4294967296) : WMid m n (l * 256) (w * 256) (s + 1) := by
  have h1 := h.lo
  have h2 := h.wi
  have h3 := h.wi2
  have h5 := h.si
  have h6 := h.si2
  refine ⟨by omega, by omega, by omega, ?_, by omega, by omega, ?_⟩
  · have := h.big
    rw [Int.pow_succ] at this
    calc (4294967296 : Int) ≤ w * (256 ^ m * 256) := this
      _ = w * 256 * 256 ^ m := by rw [Int.mul_comm (256 ^ m) 256, Int.mul_assoc]
  · have e : (s + 1).toNat = s.toNat + 1 := by omega
    rw [e, Int.pow_succ]
    have := h.fit
    omega
theorem WMid.zero {n : Nat} {l w s : Int} (h : WMid 0 n l w s) : ¬ w < 4294967296 := by
  have := h.big
  simp at this
  omega
theorem WMid.done {m n : Nat} {l w s : Int} (h : WMid m n l w s) (k : ¬ w < 4294967296) : WSp (n + 1) (l, w, s) := by
  have h1 := h.lo
  have h3 := h.wi2
  have h5 := h.si
  have h6 := h.si2
  exact ⟨h1, by show (4294967296 : Int) ≤ w; omega, h3, h5, by show s ≤ _; omega, h.fit⟩
theorem nrm_ok : ∀ (m : Nat) {n : Nat} {l w s : Int}, WMid m n l w s → WSp (n + 1) (nrm m l w s)
  | 0, n, l, w, s, h => h.done h.zero
  | m + 1, n, l, w, s, h => by
    unfold nrm
    by_cases k : w < 4294967296
    · rw [if_pos k]
      exact nrm_ok m (h.next k)
    · rw [if_neg k]
      exact h.done k
/-- putting right multiplies -/
theorem nrm_is : ∀ (m : Nat) (l w s : Int), ∃ j : Nat, j ≤ m ∧ nrm m l w s = (l * 256 ^ j, w * 256 ^ j, s + (j : Int))
  | 0, l, w, s => ⟨0, by omega, by simp [nrm]⟩
  | m + 1, l, w, s => by
    unfold nrm
    by_cases h : w < 4294967296
    · rw [if_pos h]
      obtain ⟨j, hj, e⟩ := nrm_is m (l * 256) (w * 256) (s + 1)
      refine ⟨j + 1, by omega, ?_⟩
      rw [e, Int.pow_succ, Int.mul_assoc, Int.mul_assoc, Int.mul_comm 256 (256 ^ j)]
      refine Prod.ext rfl (Prod.ext rfl ?_)
      show s + 1 + (j : Int) = s + ((j + 1 : Nat) : Int)
      omega
    · rw [if_neg h]
      exact ⟨0, by omega, by simp⟩
theorem cut_ok {w c : Int} (h : 4294967296 ≤ w) (h2 : w < 2 ^ 40 + 1) (c1 : 32768 ≤ c) (c2 : c ≤ 16744448) : 8388608 ≤ w * c / 16777216 ∧ 8388608 ≤ w - w * c / 16777216 := by
  have a : 4294967296 * 32768 ≤ w * c := Int.le_trans (Int.mul_le_mul_of_nonneg_right h (by omega)) (Int.mul_le_mul_of_nonneg_left c1 (by omega))
  have b : w * c ≤ w * 16744448 := Int.mul_le_mul_of_nonneg_left c2 (by omega)
  omega
theorem mid1 {n : Nat} {e : Ends3} {c : Int} (h : WSp n e) (c1 : 32768 ≤ c) (c2 : c ≤ 16744448) : WMid 5 n e.1 (cutOf e c) e.2.2 := by
  obtain ⟨a, b⟩ := cut_ok h.wi h.wi2 c1 c2
  have h1 := h.lo
  have h3 := h.wi2
  have h5 := h.si
  have h6 := h.si2
  have h7 := h.fit
  unfold cutOf
  exact ⟨h1, by omega, by omega, by omega, h5, by omega, by omega⟩
theorem mid0 {n : Nat} {e : Ends3} {c : Int} (h : WSp n e) (c1 : 32768 ≤ c) (c2 : c ≤ 16744448) : WMid 5 n (e.1 + cutOf e c) (e.2.1 - cutOf e c) e.2.2 := by
  obtain ⟨a, b⟩ := cut_ok h.wi h.wi2 c1 c2
  have h1 := h.lo
  have h3 := h.wi2
  have h5 := h.si
  have h6 := h.si2
  have h7 := h.fit
  unfold cutOf
  exact ⟨by omega, by omega, by omega, by omega, h5, by omega, by omega⟩
theorem nar_ok {n : Nat} {e : Ends3} {c b : Int} (h : WSp n e) (c1 : 32768 ≤ c) (c2 : c ≤ 16744448) : WSp (n + 1) (nar e c b) := by
  unfold nar
  split
  · exact nrm_ok 5 (mid1 h c1 c2)
  · exact nrm_ok 5 (mid0 h c1 c2)
theorem bits_256 {l : Int} {k : Nat} (h0 : 0 ≤ l) (h : l < 256 ^ k) : Builtin.Int.intBits l ≤ 8 * k := by
  have e : (256 : Int) ^ k = ((2 ^ (8 * k) : Nat) : Int) := by
    rw [Nat.pow_mul]
    simp
  rw [e] at h
  have h2 : l.natAbs < 2 ^ (8 * k) := by omega
  have b : Builtin.Int.intBits l ≤ 8 * k := by
    unfold Builtin.Int.intBits
    split
    · exact Nat.zero_le _
    · rename_i z
      have z' : l.natAbs ≠ 0 := by
        intro e
        have e0 : l = 0 := by omega
        exact z (by simp [e0])
      have := (Nat.log2_lt z').mpr h2
      omega
  exact b
theorem shl_256 {l w s : Int} {m n : Nat} (h : WMid m n l w s) (hn : n ≤ 100000) : CShl l 8 := by
  have h1 := h.fit
  have h2 := h.wi
  have h3 := h.si2
  have h4 := h.si
  have := bits_256 (k := s.toNat) h.lo (by omega)
  refine ⟨by decide, ?_⟩
  have e : (2 : Int) ^ 27 = 134217728 := by decide
  rw [e]
  omega
theorem shl_w {l w s : Int} {m n : Nat} (h : WMid m n l w s) : CShl w 8 := by
  have h2 := h.wi
  have h3 := h.wi2
  have := bits_256 (l := w) (k := 6) (by omega) (by omega)
  refine ⟨by decide, ?_⟩
  have e : (2 : Int) ^ 27 = 134217728 := by decide
  rw [e]
  omega
section
variable (K : PySem.W.Frag) [HasCls K "Span"] [HasNo K "Span" "low"] [HasNo K "Span" "width"] [HasNo K "Span" "size"]
def F_Span_init (K : PySem.W.Frag) : V → Hp → VK → XK → Prop := fun x H Q _ => ∃ a dx, x = .ref a ∧ H a = some (.ins (He.ga K "Span") dx []) ∧ Q .non (upd H a (.ins (He.ga K "Span") dx (spanF (0, 1099511627776, 5))))
abbrev sp_Span_init (K : PySem.W.Frag) : Sp := on1 (F_Span_init K)
def t_Span_init (K : PySem.W.Frag) (E : XK) : TS :=
  tSeq (sFld K (tVar 0) (tC (.int 0)) "low")
  (tSeq (sFld K (tVar 0) (tC (.int 1099511627776)) "width")
  (sFld K (tVar 0) (tC (.int 5)) "size"))
theorem pure_Span_init {x : V} {H : Hp} {Q : VK} {E : XK} (h : F_Span_init K x H Q E) : t_Span_init K E ⟨fun _ H' => Q .non H', Q, fun _ _ => False, fun _ _ => False⟩ [some x] H := by
  obtain ⟨a, dx, rfl, ha, q⟩ := h
  unfold t_Span_init
  walk_at "go"
  exact q
def F_Span_ends (K : PySem.W.Frag) : V → Hp → VK → XK → Prop := fun x H Q _ => ∃ a dx e, x = .ref a ∧ H a = some (.ins (He.ga K "Span") dx (spanF e)) ∧ ∀ p, H p = none → Q (.ref p) (upd H p (.tup (endV e)))
abbrev sp_Span_ends (K : PySem.W.Frag) : Sp := on1 (F_Span_ends K)
def t_Span_ends (K : PySem.W.Frag) (E : XK) : TS :=
  tRet (tTup (tCons (tFld K (tVar 0) "low") (tCons (tFld K (tVar 0) "width") (tCons (tFld K (tVar 0) "size") (tNil)))))
theorem pure_Span_ends {x : V} {H : Hp} {Q : VK} {E : XK} (h : F_Span_ends K x H Q E) : t_Span_ends K E ⟨fun _ H' => Q .non H', Q, fun _ _ => False, fun _ _ => False⟩ [some x] H := by
  obtain ⟨a, dx, e, rfl, ha, q⟩ := h
  unfold spanF at ha
  unfold t_Span_ends
  walk_at "go"
  exact q
def F_Span_narrow (K : PySem.W.Frag) : V → V → V → Hp → VK → XK → Prop := fun x y z H Q E => ∃ (a dx : Addr) (e : Ends3) (n : Nat), x = .ref a ∧ H a = some (.ins (He.ga K "Span") dx (spanF e)) ∧ WSp n e ∧ n ≤ 100000 ∧ TyW K H y ∧ TyW K H z ∧
  (btw 32768 16744448 y = false → E (.ref (He.ga K "NoChance")) none H) ∧ (btw 32768 16744448 y = true → btw 0 1 z = false → E (.ref (He.ga K "NoBit")) none H) ∧
  (∀ c b : Int, y = .int c → z = .int b → 32768 ≤ c → c ≤ 16744448 → 0 ≤ b → b ≤ 1 → Q .non (upd H a (.ins (He.ga K "Span") dx (spanF (nar e c b)))))
abbrev sp_Span_narrow (K : PySem.W.Frag) : Sp := on3 (F_Span_narrow K)
theorem narrow_of {a dx : Addr} {e : Ends3} {n : Nat} {c b : Int} {H : Hp} {Q : VK} {E : XK} (ha : H a = some (.ins (He.ga K "Span") dx (spanF e))) (w : WSp n e) (hn : n ≤ 100000) (hc : 32768 ≤ c ∧ c ≤ 16744448) (hb : 0 ≤ b ∧ b ≤ 1)
    (q : Q .non (upd H a (.ins (He.ga K "Span") dx (spanF (nar e c b))))) : F_Span_narrow K (.ref a) (.int c) (.int b) H Q E := by
  have bt : ∀ {u v i : Int}, u ≤ i ∧ i ≤ v → btw u v (.int i) = true := fun h => by rw [btw, decide_eq_true h.1, decide_eq_true h.2]; rfl
  refine ⟨a, dx, e, n, rfl, ha, w, hn, .int, .int, fun k => ?_, fun _ k => ?_, fun c' b' e1 e2 _ _ _ _ => ?_⟩
  · rw [bt hc] at k; cases k
  · rw [bt hb] at k; cases k
  · cases e1
    cases e2
    exact q
def t_Span_narrow (K : PySem.W.Frag) (E : XK) : TS :=
  tSeq (tAsg (tFun (sp_checked_chance K) [] (fun _ => E) (tCons (tVar 1) (tNil))) (gName 3))
  (tSeq (tAsg (tFun (sp_checked_bit K) [] (fun _ => E) (tCons (tVar 2) (tNil))) (gName 4))
  (tSeq (tAsg (tOp (rFloor) (tOp (rTimes) (tFld K (tVar 0) "width") (tVar 3)) (tC (.int 16777216))) (gName 5))
  (tSeq (tIfS (tTest (tOp (rSame K) (tVar 4) (tC (.int 1)))) (sFld K (tVar 0) (tVar 5) "width") (tSeq (sFldAug K (tVar 0) (tVar 5) L2.rAdd "low")
  (sFldAug K (tVar 0) (tVar 5) L2.rSub "width")))
  (tWhile (tTest (tOp (iLt) (tFld K (tVar 0) "width") (tC (.int 4294967296)))) (tSeq (sFld K (tVar 0) (tOp (rLsh) (tFld K (tVar 0) "low") (tC (.int 8))) "low")
  (tSeq (sFld K (tVar 0) (tOp (rLsh) (tFld K (tVar 0) "width") (tC (.int 8))) "width")
  (sFldAug K (tVar 0) (tC (.int 1)) L2.rAdd "size")))))))
theorem pure_Span_narrow {x y z : V} {H : Hp} {Q : VK} {E : XK} (h : F_Span_narrow K x y z H Q E) : t_Span_narrow K E ⟨fun _ H' => Q .non H', Q, fun _ _ => False, fun _ _ => False⟩ [some x, some y, some z, none, none, none] H := by
  obtain ⟨a, dx, e, n, rfl, ha, w, hn, ty, tz, r1, r2, q⟩ := h
  unfold t_Span_narrow
  walk_at "go"
  refine ⟨ty, fun hy => ?_, r1⟩
  walk_at "go"
  refine ⟨tz, fun hz => ?_, r2 hy⟩
  obtain ⟨c, rfl, c1, c2⟩ := btw_int hy
  obtain ⟨b, rfl, b1, b2⟩ := btw_int hz
  have q := q c b rfl rfl c1 c2 b1 b2
  have key : ∀ u l w s, WMid 5 n l w s → nrm 5 l w s = nar e c b → tWhile (tTest (tOp (iLt) (tFld K (tVar 0) "width") (tC (.int 4294967296)))) (tSeq (sFld K (tVar 0) (tOp (rLsh) (tFld K (tVar 0) "low") (tC (.int 8))) "low")
      (tSeq (sFld K (tVar 0) (tOp (rLsh) (tFld K (tVar 0) "width") (tC (.int 8))) "width") (sFldAug K (tVar 0) (tC (.int 1)) L2.rAdd "size")))
      ⟨fun _ H' => Q .non H', Q, fun _ _ => False, fun _ _ => False⟩ [some (.ref a), some (.int c), some (.int b), some (.int c), some (.int b), u] (upd H a (.ins (He.ga K "Span") dx [("low", .int l), ("width", .int w), ("size", .int s)])) := by
    intro u l w s M0 R0
    refine g_while (fun m σ H' => ∃ l w s, σ = [some (.ref a), some (.int c), some (.int b), some (.int c), some (.int b), u] ∧ H' = upd H a (.ins (He.ga K "Span") dx [("low", .int l), ("width", .int w), ("size", .int s)]) ∧ WMid m n l w s ∧ nrm m l w s = nar e c b) 5 ⟨l, w, s, rfl, rfl, M0, R0⟩ ?_
    rintro m σ H' ⟨l, w, s, rfl, rfl, M, R⟩
    walk_at "go"
    refine dif (fun h => ?_) fun h => ?_
    · cases m with
      | zero => exact (M.zero h).elim
      | succ m =>
        walk_at "go"
        refine g_lshE (e := 256) (shl_256 M hn) (by decide) ?_
        walk_at "go"
        refine g_lshE (e := 256) (shl_w M) (by decide) ?_
        walk_at "go"
        exact ⟨m, Nat.lt_succ_self m, _, _, _, rfl, rfl, M.next h, by rw [← R]; show nrm m _ _ _ = (if _ then _ else _); rw [if_pos h]⟩
    · walk_at "go"
      have R2 : nar e c b = (l, w, s) := by
        rw [← R]
        cases m with
        | zero => rfl
        | succ m => show (if _ then _ else _) = _; rw [if_neg h]
      rw [R2] at q
      exact q
  unfold spanF at ha
  walk_at "go"
  refine dif (fun hb => ?_) fun hb => ?_
  · walk_at "go"
    exact key _ _ _ _ (mid1 w c1 c2) (by unfold nar; rw [if_pos hb]; rfl)
  · walk_at "go"
    exact key _ _ _ _ (mid0 w c1 c2) (by unfold nar; rw [if_neg hb]; rfl)
end
/-! bytes of a number; by which bytes a span is told -/
def byt : Nat → Int → List Int
  | 0, _ => []
  | k + 1, v => byt k (v / 256) ++ [v % 256]
def lows : Nat → Int → List Int
  | 0, _ => []
  | k + 1, v => v % 256 :: lows k (v / 256)
theorem lows_rev : ∀ (k : Nat) (v : Int), (lows k v).reverse = byt k v
  | 0, _ => rfl
  | k + 1, v => by rw [lows, List.reverse_cons, lows_rev k, byt]
theorem lows_snoc : ∀ (k : Nat) (v : Int), lows (k + 1) v = lows k v ++ [v / 256 ^ k % 256]
  | 0, v => by simp [lows]
  | k + 1, v => by
    rw [lows, lows_snoc k (v / 256), lows, List.cons_append]
    congr 3
    rw [Int.ediv_ediv_of_nonneg (by decide), Int.pow_succ, Int.mul_comm]
theorem byt_len : ∀ (k : Nat) (v : Int), (byt k v).length = k
  | 0, _ => rfl
  | k + 1, v => by rw [byt, List.length_append, byt_len k]; rfl
theorem lows_len : ∀ (k : Nat) (v : Int), (lows k v).length = k
  | 0, _ => rfl
  | k + 1, v => by rw [lows, List.length_cons, lows_len k]
theorem byt_ok : ∀ (k : Nat) (v : Int), ∀ z ∈ byt k v, 0 ≤ z ∧ z ≤ 255
  | 0, _, z, h => nomatch h
  | k + 1, v, z, h => by
    rcases List.mem_append.mp h with h | h
    · exact byt_ok k _ z h
    · have := List.mem_singleton.mp h
      omega
def valOf (bs : List Int) : Int := bs.foldl (fun n b => n * 256 + b) 0
theorem valOf_snoc (bs : List Int) (b : Int) : valOf (bs ++ [b]) = valOf bs * 256 + b := by
  unfold valOf
  rw [List.foldl_append]
  rfl
theorem valOf_byt : ∀ (k : Nat) (v : Int), 0 ≤ v → v < 256 ^ k → valOf (byt k v) = v
  | 0, v, h, h2 => by
    simp at h2
    have : v = 0 := by omega
    rw [this]; rfl
  | k + 1, v, h, h2 => by
    rw [byt, valOf_snoc, valOf_byt k (v / 256) (by omega) (by rw [Int.pow_succ] at h2; omega)]
    omega
theorem g_mask8 {i : Int} {H : Hp} {Q : VK} (q : Q (.int (i % 256)) H) : rMask (.int i) (.int 255) H Q := ⟨i, 8, rfl, by decide, q⟩
theorem g_shr8 {i : Int} {H : Hp} {Q : VK} (q : Q (.int (i / 256)) H) : rRsh (.int i) (.int 8) H Q := g_rshE (e := 256) (by decide) (by decide) q
theorem pow256_le {a b : Nat} (h : a ≤ b) : (256 : Int) ^ a ≤ 256 ^ b := by
  have e : ∀ n : Nat, (256 : Int) ^ n = ((256 ^ n : Nat) : Int) := fun n => by simp
  rw [e, e]
  exact Int.ofNat_le.mpr (Nat.pow_le_pow_right (by decide) h)
def F_bytes_of_number (K : PySem.W.Frag) : V → V → Hp → VK → XK → Prop := fun x y H Q _ => ∃ (v : Int) (k : Nat), x = .int v ∧ y = .int k ∧ k ≤ 900000 ∧ ∀ l H', H l = none → Same H H' → H' l = some (.lst ((byt k v).map V.int)) → Q (.ref l) H'
abbrev sp_bytes_of_number (K : PySem.W.Frag) : Sp := on2 (F_bytes_of_number K)
def t_bytes_of_number (K : PySem.W.Frag) (E : XK) : TS :=
  tSeq (tAsg (tLst (tNil)) (gName 2))
  (tSeq (tFor (iRng1 (tCons (tVar 1) (tNil))) (gName 3) (tSeq (tDrop (tBM K "list" (rAppend) (tVar 2) (tCons (tOp (rMask) (tVar 0) (tC (.int 255))) (tNil))))
  (tAsg (tOp (rRsh) (tVar 0) (tC (.int 8))) (gName 0))))
  (tSeq (tDrop (tBM0 K "list" (rReverse) (tVar 2)))
  (tRet (tVar 2))))
theorem pure_bytes_of_number (K : PySem.W.Frag) {x y : V} {H : Hp} {Q : VK} {E : XK} (h : F_bytes_of_number K x y H Q E) : t_bytes_of_number K E ⟨fun _ H' => Q .non H', Q, fun _ _ => False, fun _ _ => False⟩ [some x, some y, none, none] H := by
  obtain ⟨v, k, rfl, rfl, hk, q⟩ := h
  unfold t_bytes_of_number
  walk_at "go"
  intro l nl
  walk_at "go"
  refine for_R1 (k := k) rfl (by omega) (fun i σ H1 => ∃ u, σ = [some (.int (v / 256 ^ i)), some (.int k), some (.ref l), u] ∧ Same H H1 ∧ H1 l = some (.lst ((lows i v).map V.int))) ?_ ?_ ?_
  · exact ⟨none, by simp, by walk_at "sm", upd_same⟩
  · rintro i σ H1 hi ⟨u, rfl, s, e⟩
    have hl : (lows i v).length = i := lows_len i v
    walk_at "go"
    refine g_mask8 ?_
    walk_at "go"
    refine g_shr8 ?_
    walk_at "go"
    refine ⟨some (.int i), ?_, by walk_at "sm", ?_⟩
    · rw [Int.pow_succ, Int.ediv_ediv_of_nonneg (Int.pow_nonneg (by decide))]
    · rw [upd_same, lows_snoc, List.map_append]; rfl
  · rintro σ H1 ⟨u, rfl, s, e⟩
    walk_at "go"
    refine q l _ nl (by walk_at "sm") ?_
    rw [upd_same, ← List.map_reverse, lows_rev]
/-! told -/
def cdv (l b : Int) : Int := -(-l / b)
def fitB (l w b : Int) : Prop := (cdv l b + 1) * b ≤ l + w
instance {l w b : Int} : Decidable (fitB l w b) := by unfold fitB; infer_instance
def tellB (e : Ends3) : Nat := if fitB e.1 e.2.1 1099511627776 then 5 else if fitB e.1 e.2.1 4294967296 then 4 else 3
def tellF (e : Ends3) : Int := if fitB e.1 e.2.1 1099511627776 then cdv e.1 1099511627776 else if fitB e.1 e.2.1 4294967296 then cdv e.1 4294967296 else cdv e.1 16777216
def tell (e : Ends3) : List Int := byt (e.2.2.toNat - tellB e) (tellF e)
/-- what told gives: the least number, as many bytes -/
structure Tells (e : Ends3) (b : Nat) (f : Int) : Prop where
  b3 : 3 ≤ b
  b5 : b ≤ 5
  lo : e.1 ≤ f * 256 ^ b
  lo2 : (f - 1) * 256 ^ b < e.1
  hi : (f + 1) * 256 ^ b ≤ e.1 + e.2.1
theorem tells {n : Nat} {e : Ends3} (w : WSp n e) : Tells e (tellB e) (tellF e) ∧ 0 ≤ tellF e ∧ tellF e < 256 ^ (e.2.2.toNat - tellB e) := by
  have h1 := w.lo
  have h2 := w.wi
  have h3 := w.wi2
  have T : Tells e (tellB e) (tellF e) := by
    unfold tellB tellF
    by_cases c5 : fitB e.1 e.2.1 1099511627776
    · rw [if_pos c5, if_pos c5]
      unfold fitB cdv at c5
      unfold cdv
      exact ⟨by decide, by decide, by omega, by omega, by omega⟩
    · rw [if_neg c5, if_neg c5]
      by_cases c4 : fitB e.1 e.2.1 4294967296
      · rw [if_pos c4, if_pos c4]
        unfold fitB cdv at c4
        unfold cdv
        exact ⟨by decide, by decide, by omega, by omega, by omega⟩
      · rw [if_neg c4, if_neg c4]
        unfold cdv
        exact ⟨by decide, by decide, by omega, by omega, by omega⟩
  have f0 : 0 ≤ tellF e := by
    unfold tellF cdv
    split
    · omega
    · split <;> omega
  refine ⟨T, f0, ?_⟩
  have hs : 5 ≤ e.2.2.toNat := by have := w.si; omega
  have p : (256 : Int) ^ e.2.2.toNat = 256 ^ (e.2.2.toNat - tellB e) * 256 ^ tellB e := by
    rw [← Int.pow_add]
    congr 1
    have := T.b5
    omega
  have hf := w.fit
  have := T.hi
  rw [p] at hf
  have hp : (0 : Int) < 256 ^ tellB e := Int.pow_pos (by decide)
  have k : (tellF e + 1) * 256 ^ tellB e ≤ 256 ^ (e.2.2.toNat - tellB e) * 256 ^ tellB e := Int.le_trans this hf
  have := Int.le_of_mul_le_mul_right k hp
  omega
section
variable (K : PySem.W.Frag) [HasCls K "Span"] [HasNo K "Span" "low"] [HasNo K "Span" "width"] [HasNo K "Span" "size"]
def F_Span_told (K : PySem.W.Frag) : V → Hp → VK → XK → Prop := fun x H Q _ => ∃ (a dx : Addr) (e : Ends3) (n : Nat), x = .ref a ∧ H a = some (.ins (He.ga K "Span") dx (spanF e)) ∧ WSp n e ∧ n ≤ 100000 ∧ ∀ l H', H l = none → Same H H' → H' l = some (.lst ((tell e).map V.int)) → Q (.ref l) H'
abbrev sp_Span_told (K : PySem.W.Frag) : Sp := on1 (F_Span_told K)
def blk : Nat → Int
  | 0 => 16777216
  | 1 => 4294967296
  | _ => 1099511627776
def t_Span_told (K : PySem.W.Frag) (E : XK) : TS :=
  tSeq (tAsg (tC (.int 5)) (gName 1))
  (tSeq (tAsg (tC (.int 1099511627776)) (gName 2))
  (tSeq (tAsg (tUn rNeg (tOp (rFloor) (tUn rNeg (tFld K (tVar 0) "low")) (tVar 2))) (gName 3))
  (tSeq (tWhile (tTest (tOp (iGt) (tOp (rTimes) (tOp (rPlus K) (tVar 3) (tC (.int 1))) (tVar 2)) (tOp (rPlus K) (tFld K (tVar 0) "low") (tFld K (tVar 0) "width")))) (tSeq (tAug 1 (tC (.int 1)) (ipI fun i j => i - j))
  (tSeq (tAsg (tOp (rRsh) (tVar 2) (tC (.int 8))) (gName 2))
  (tAsg (tUn rNeg (tOp (rFloor) (tUn rNeg (tFld K (tVar 0) "low")) (tVar 2))) (gName 3)))))
  (tRet (tFun (sp_bytes_of_number K) [] (fun _ => E) (tCons (tVar 3) (tCons (tOp (rMinus) (tFld K (tVar 0) "size") (tVar 1)) (tNil))))))))
theorem pure_Span_told {x : V} {H : Hp} {Q : VK} {E : XK} (h : F_Span_told K x H Q E) : t_Span_told K E ⟨fun _ H' => Q .non H', Q, fun _ _ => False, fun _ _ => False⟩ [some x, none, none, none] H := by
  obtain ⟨a, dx, e, n, rfl, ha, w, hn, q⟩ := h
  have h1 := w.lo
  have h2 := w.wi
  have h3 := w.wi2
  have h5 := w.si
  have h6 := w.si2
  unfold spanF at ha
  unfold t_Span_told
  walk_at "go"
  refine g_while (fun m σ H' => m ≤ 2 ∧ σ = [some (.ref a), some (.int ((m : Int) + 3)), some (.int (blk m)), some (.int (cdv e.1 (blk m)))] ∧ H' = H ∧ (m ≤ 1 → ¬ fitB e.1 e.2.1 1099511627776) ∧ (m = 0 → ¬ fitB e.1 e.2.1 4294967296)) 2 ⟨by decide, rfl, rfl, fun h => absurd h (by decide), fun h => absurd h (by decide)⟩ ?_
  rintro m σ H' ⟨hm, rfl, rfl, n5, n4⟩
  walk_at "go"
  have done : ∀ b f, tellB e = b → tellF e = f → F_bytes_of_number K (.int f) (.int (e.2.2 - (b : Int))) H' Q E := by
    rintro b f rfl rfl
    have b5 := (tells w).1.b5
    exact ⟨_, e.2.2.toNat - tellB e, rfl, by congr 1; omega, by omega, q⟩
  match m, hm with
  | 0, _ =>
    refine g_mul (.inr (by decide)) ?_
    walk_at "go"
    refine difX (by simp only [cdv, blk]; omega) ?_
    walk_at "go"
    exact done 3 _ (by unfold tellB; rw [if_neg (n5 (by decide)), if_neg (n4 rfl)]) (by unfold tellF; rw [if_neg (n5 (by decide)), if_neg (n4 rfl)]; rfl)
  | 1, _ =>
    refine g_mul (.inr (by decide)) ?_
    walk_at "go"
    refine dif (fun h => ?_) fun h => ?_
    · walk_at "go"
      refine g_shr8 ?_
      walk_at "go"
      exact ⟨0, by decide, by decide, rfl, rfl, fun _ => n5 (by decide), fun _ c => by unfold fitB at c; simp only [blk] at h; omega⟩
    · walk_at "go"
      have f4 : fitB e.1 e.2.1 4294967296 := by unfold fitB; simp only [blk] at h; omega
      exact done 4 _ (by unfold tellB; rw [if_neg (n5 (by decide)), if_pos f4]) (by unfold tellF; rw [if_neg (n5 (by decide)), if_pos f4]; rfl)
  | 2, _ =>
    refine g_mul (.inr (by decide)) ?_
    walk_at "go"
    refine dif (fun h => ?_) fun h => ?_
    · walk_at "go"
      refine g_shr8 ?_
      walk_at "go"
      exact ⟨1, by decide, by decide, rfl, rfl, fun _ c => by unfold fitB at c; simp only [blk] at h; omega, fun c => absurd c (by decide)⟩
    · walk_at "go"
      have f5 : fitB e.1 e.2.1 1099511627776 := by unfold fitB; simp only [blk] at h; omega
      exact done 5 _ (by unfold tellB; rw [if_pos f5]) (by unfold tellF; rw [if_pos f5]; rfl)
end
/-! a seeker: the bytes, its span, the number of the bytes that were taken -/
def num (d : List Int) : Nat → Int
  | 0 => 0
  | m + 1 => num d m * 256 + d.getD m 0
def Byts (d : List Int) : Prop := ∀ z ∈ d, 0 ≤ z ∧ z ≤ 255
theorem byt_at {d : List Int} (h : Byts d) (m : Nat) : 0 ≤ d.getD m 0 ∧ d.getD m 0 ≤ 255 := by
  rw [List.getD_eq_getElem?_getD]
  cases e : d[m]? with
  | none => exact ⟨by decide, by decide⟩
  | some z => exact h z (List.mem_of_getElem? e)
theorem num_lt {d : List Int} (h : Byts d) : ∀ m : Nat, 0 ≤ num d m ∧ num d m < 256 ^ m
  | 0 => ⟨Int.le_refl _, by show (0 : Int) < 1; decide⟩
  | m + 1 => by
    obtain ⟨a, b⟩ := num_lt h m
    have c := byt_at h m
    unfold num
    rw [Int.pow_succ]
    omega
theorem num_add {d : List Int} (h : Byts d) (m : Nat) : ∀ j : Nat, num d m * 256 ^ j ≤ num d (m + j) ∧ num d (m + j) < (num d m + 1) * 256 ^ j
  | 0 => by simp; omega
  | j + 1 => by
    obtain ⟨a, b⟩ := num_add h m j
    have c := byt_at h (m + j)
    have e : num d (m + (j + 1)) = num d (m + j) * 256 + d.getD (m + j) 0 := rfl
    rw [e, Int.pow_succ, ← Int.mul_assoc, ← Int.mul_assoc]
    omega
def bitOf (d : List Int) (e : Ends3) (c : Int) : Int := if num d e.2.2.toNat < e.1 + cutOf e c then 1 else 0
/-- the number lies in the span -/
def Within (d : List Int) (e : Ends3) : Prop := e.1 ≤ num d e.2.2.toNat ∧ num d e.2.2.toNat < e.1 + e.2.1
theorem within_nar {n : Nat} {d : List Int} {e : Ends3} {c : Int} (hd : Byts d) (w : WSp n e) (c1 : 32768 ≤ c) (c2 : c ≤ 16744448) (h : Within d e) : Within d (nar e c (bitOf d e c)) := by
  have h5 := w.si
  unfold Within at *
  unfold bitOf
  have key : ∀ l v : Int, l ≤ num d e.2.2.toNat → num d e.2.2.toNat < l + v → ∀ R, R = nrm 5 l v e.2.2 → R.1 ≤ num d R.2.2.toNat ∧ num d R.2.2.toNat < R.1 + R.2.1 := by
    intro l v a b R hR
    obtain ⟨j, _, q⟩ := nrm_is 5 l v e.2.2
    rw [hR, q]
    have t : (e.2.2 + (j : Int)).toNat = e.2.2.toNat + j := by omega
    show l * 256 ^ j ≤ num d (e.2.2 + (j : Int)).toNat ∧ num d (e.2.2 + (j : Int)).toNat < l * 256 ^ j + v * 256 ^ j
    rw [t, ← Int.add_mul]
    obtain ⟨x, y⟩ := num_add hd e.2.2.toNat j
    have hj : (0 : Int) ≤ 256 ^ j := Int.pow_nonneg (by decide)
    exact ⟨Int.le_trans (Int.mul_le_mul_of_nonneg_right a hj) x, Int.lt_of_lt_of_le y (Int.mul_le_mul_of_nonneg_right (by omega) hj)⟩
  by_cases k : num d e.2.2.toNat < e.1 + cutOf e c
  · rw [if_pos k]
    exact key e.1 (cutOf e c) h.1 k _ (by unfold nar; rw [if_pos rfl])
  · rw [if_neg k]
    exact key (e.1 + cutOf e c) (e.2.1 - cutOf e c) (by omega) (by omega) _ (by unfold nar; rw [if_neg (by decide)])
def seekF (r sp : Addr) (d : List Int) (t : Nat) : List (Str × V) := [("row", .ref r), ("span", .ref sp), ("number", .int (num d t)), ("taken", .int (t : Int))]
structure SeekAt (K : PySem.W.Frag) (H : Hp) (a dx r sp sdx : Addr) (d : List Int) (e : Ends3) (t : Nat) : Prop where
  ins : H a = some (.ins (He.ga K "Seeker") dx (seekF r sp d t))
  row : H r = some (.lst (d.map V.int))
  spn : H sp = some (.ins (He.ga K "Span") sdx (spanF e))
  nsp : sp ≠ a
theorem SeekAt.same {K : PySem.W.Frag} {H H1 : Hp} {a dx r sp sdx : Addr} {d : List Int} {e : Ends3} {t : Nat} (h : SeekAt K H a dx r sp sdx d e t) (s : Same H H1) : SeekAt K H1 a dx r sp sdx d e t := ⟨s _ _ h.ins, s _ _ h.row, s _ _ h.spn, h.nsp⟩
theorem shl_num {d : List Int} (h : Byts d) {t : Nat} (ht : t ≤ 1000000) : CShl (num d t) 8 := by
  obtain ⟨a, b⟩ := num_lt h t
  have := bits_256 a b
  refine ⟨by decide, ?_⟩
  have e : (2 : Int) ^ 27 = 134217728 := by decide
  rw [e]
  omega
section
variable (K : PySem.W.Frag) [HasCls K "Seeker"] [HasNo K "Seeker" "row"] [HasNo K "Seeker" "span"] [HasNo K "Seeker" "number"] [HasNo K "Seeker" "taken"]
def F_Seeker_take (K : PySem.W.Frag) : V → Hp → VK → XK → Prop := fun x H Q _ => ∃ (a dx r sp sdx : Addr) (d : List Int) (e : Ends3) (t n : Nat), x = .ref a ∧ SeekAt K H a dx r sp sdx d e t ∧ t ≤ e.2.2.toNat ∧ Byts d ∧ d.length ≤ 100000 ∧ WSp n e ∧ n ≤ 100000 ∧
  ∀ H', SameX (· = a) H H' → H' a = some (.ins (He.ga K "Seeker") dx (seekF r sp d e.2.2.toNat)) → Q .non H'
abbrev sp_Seeker_take (K : PySem.W.Frag) : Sp := on1 (F_Seeker_take K)
def t_Seeker_take (K : PySem.W.Frag) (E : XK) : TS :=
  tSeq (tAsg (tOp (rIx K) (tMth "ends" (one (He.ga K "Span") (sp_Span_ends K)) (fun _ => E) (tFld K (tVar 0) "span") (tNil)) (tC (.int 2))) (gName 1))
  (tWhile (tTest (tOp (iLt) (tFld K (tVar 0) "taken") (tVar 1))) (tSeq (tAsg (tC (.int 0)) (gName 2))
  (tSeq (tIfS (tTest (tOp (iLt) (tFld K (tVar 0) "taken") (tCB (rLength K) (tCons (tFld K (tVar 0) "row") (tNil))))) (tAsg (tOp (rIx K) (tFld K (tVar 0) "row") (tFld K (tVar 0) "taken")) (gName 2)) (tNext))
  (tSeq (sFld K (tVar 0) (tOp (rPlus K) (tOp (rLsh) (tFld K (tVar 0) "number") (tC (.int 8))) (tVar 2)) "number")
  (sFldAug K (tVar 0) (tC (.int 1)) L2.rAdd "taken")))))
theorem pure_Seeker_take {x : V} {H : Hp} {Q : VK} {E : XK} (h : F_Seeker_take K x H Q E) : t_Seeker_take K E ⟨fun _ H' => Q .non H', Q, fun _ _ => False, fun _ _ => False⟩ [some x, none, none] H := by
  obtain ⟨a, dx, r, sp, sdx, d, e, t, n, rfl, ⟨ha, hr, hsp, nsp⟩, ht, hd, dl, w, hn, q⟩ := h
  have h5 := w.si
  have h6 := w.si2
  unfold seekF at ha
  unfold t_Seeker_take
  walk_at "go"
  refine ⟨sp, sdx, e, rfl, hsp, fun p np => ?_⟩
  have ep : (upd H p (.tup (endV e))) p = some (.tup [.int e.1, .int e.2.1, .int e.2.2]) := upd_same
  have s := same_new (u := .tup (endV e)) (Same.refl H) np
  have ha := lk_new (u := (.tup (endV e))) ha np
  have hr := lk_new (u := (.tup (endV e))) hr np
  generalize upd H p (.tup (endV e)) = H1 at ep s ha hr
  walk_at "go"
  refine g_while (fun m σ H2 => ∃ t u, t + m = e.2.2.toNat ∧ σ = [some (.ref a), some (.int e.2.2), u] ∧ SameX (· = a) H H2 ∧ H2 r = some (.lst (d.map V.int)) ∧ H2 a = some (.ins (He.ga K "Seeker") dx [("row", .ref r), ("span", .ref sp), ("number", .int (num d t)), ("taken", .int (t : Int))])) (e.2.2.toNat - t) ⟨t, _, by omega, rfl, SameX.of s, hr, ha⟩ ?_
  have hra : r ≠ a := ne_kind hr ha (by intro z; cases z)
  have hr0 := hr
  have s1 := s
  rintro m σ H2 ⟨t, u, hm, rfl, s, hr2, ha⟩
  walk_at "go"
  refine dif (fun h => ?_) fun h => ?_
  · walk_at "go"
    rw [List.length_map]
    have b := byt_at hd t
    have nx : num d (t + 1) = num d t * 256 + d.getD t 0 := rfl
    refine dif (fun h2 => ?_) fun h2 => ?_
    · walk_at "go"
      refine g_ixL (sq_of hr2) (ix_ints (by omega)) ?_
      walk_at "go"
      refine g_lshE (e := 256) (shl_num hd (by omega)) (by decide) ?_
      walk_at "go"
      refine ⟨m - 1, by omega, t + 1, _, by omega, rfl, (s.mut rfl), lk_mut hra hr2, ?_⟩
      rw [upd_same, nx]
      rfl
    · have z : d.getD t 0 = 0 := by rw [List.getD_eq_getElem?_getD, List.getElem?_eq_none (by omega)]; rfl
      walk_at "go"
      refine g_lshE (e := 256) (shl_num hd (by omega)) (by decide) ?_
      walk_at "go"
      refine ⟨m - 1, by omega, t + 1, _, by omega, rfl, (s.mut rfl), lk_mut hra hr2, ?_⟩
      rw [upd_same, nx, z]
      rfl
  · walk_at "go"
    have e0 : t = e.2.2.toNat := by omega
    subst e0
    exact q _ s ha
variable [HasCls K "Span"] [HasNo K "Span" "low"] [HasNo K "Span" "width"] [HasNo K "Span" "size"]
theorem wsp0' : WSp 0 (0, 1099511627776, 5) := ⟨by decide, by decide, by decide, by decide, by decide, by decide⟩
def F_Seeker_init (K : PySem.W.Frag) : V → V → Hp → VK → XK → Prop := fun x y H Q E => ∃ (a dx : Addr) (bb : Bool), x = .ref a ∧ H a = some (.ins (He.ga K "Seeker") dx []) ∧ SgT K H 12000 y bb ∧ (bb = false → ∀ H', Same H H' → E (.ref (He.ga K "NoBytes")) none H') ∧
  (bb = true → ∀ b ns, y = .ref b → H b = some (.lst (ns.map V.int)) → TextOk 12000 ns → ∀ r sp sdx H', H r = none → H sp = none → SameX (· = a) H H' → SeekAt K H' a dx r sp sdx ns (0, 1099511627776, 5) 5 → Q .non H')
abbrev sp_Seeker_init (K : PySem.W.Frag) : Sp := on2 (F_Seeker_init K)
def t_Seeker_init (K : PySem.W.Frag) (E : XK) : TS :=
  tSeq (sFld K (tVar 0) (tFun (sp_checked_bytes K) [] (fun _ => E) (tCons (tVar 1) (tNil))) "row")
  (tSeq (sFld K (tVar 0) (tNew (He.ga K "Span") (sp_Span_init K) [] (fun _ => E) (tNil)) "span")
  (tSeq (sFld K (tVar 0) (tC (.int 0)) "number")
  (tSeq (sFld K (tVar 0) (tC (.int 0)) "taken")
  (tDrop (tMth "take" (one (He.ga K "Seeker") (sp_Seeker_take K)) (fun _ => E) (tVar 0) (tNil))))))
theorem pure_Seeker_init {x y : V} {H : Hp} {Q : VK} {E : XK} (h : F_Seeker_init K x y H Q E) : t_Seeker_init K E ⟨fun _ H' => Q .non H', Q, fun _ _ => False, fun _ _ => False⟩ [some x, some y] H := by
  obtain ⟨a, dx, bb, rfl, ha, S, r0, q⟩ := h
  unfold t_Seeker_init
  walk_at "go"
  refine ⟨bb, S, r0, fun hb b ns hy hbb T r H1 nr s1 er => ?_⟩
  have q := q hb b ns hy hbb T
  have ea := s1 _ _ ha
  have X1 : SameX (· = a) H H1 := SameX.of s1
  clear s1
  walk_at "go"
  have hra : r ≠ a := ne_kind er ea (by intro z; cases z)
  have er := lk_mut (u := .ins (He.ga K "Seeker") dx [("row", .ref r)]) hra er
  have ea : (upd H1 a (.ins (He.ga K "Seeker") dx [("row", .ref r)])) a = some (.ins (He.ga K "Seeker") dx [("row", .ref r)]) := upd_same
  have X1 := X1.mut (o := .ins (He.ga K "Seeker") dx [("row", .ref r)]) rfl
  generalize upd H1 a (.ins (He.ga K "Seeker") dx [("row", .ref r)]) = H2 at er ea X1
  walk_at "go"
  intro sp sdx nsp nsdx nsd
  walk_at "go"
  refine ⟨sp, sdx, rfl, upd_same, rfl, ?_⟩
  rw [upd_upd]
  have nspa : sp ≠ a := fun e => by rw [e, ea] at nsp; cases nsp
  have nspH : H sp = none := X1.dm _ nsp
  have nsp' : upd H2 sdx (.own sp) sp = none := by rw [upd_ne nsd.symm]; exact nsp
  have er := lk_new (u := .ins (He.ga K "Span") sdx (spanF (0, 1099511627776, 5))) (lk_new (u := .own sp) er nsdx) nsp'
  have ea := lk_new (u := .ins (He.ga K "Span") sdx (spanF (0, 1099511627776, 5))) (lk_new (u := .own sp) ea nsdx) nsp'
  have X1 := SameX.new (o := .ins (He.ga K "Span") sdx (spanF (0, 1099511627776, 5))) (SameX.new (o := .own sp) X1 nsdx) nsp'
  have esp : (upd (upd H2 sdx (.own sp)) sp (.ins (He.ga K "Span") sdx (spanF (0, 1099511627776, 5)))) sp = some (.ins (He.ga K "Span") sdx (spanF (0, 1099511627776, 5))) := upd_same
  generalize upd (upd H2 sdx (.own sp)) sp (.ins (He.ga K "Span") sdx (spanF (0, 1099511627776, 5))) = H3 at er ea X1 esp
  walk_at "go"
  refine ⟨a, dx, r, sp, sdx, ns, (0, 1099511627776, 5), 0, 0, rfl, ⟨upd_same, lk_mut hra er, lk_mut nspa esp, nspa⟩, by omega, T.all, Nat.le_trans T.len (by decide), wsp0', by decide, fun H5 s5 e5 => ?_⟩
  refine q r sp sdx H5 nr nspH (SameX.trans (X1.mut rfl) s5) ⟨e5, s5.kp _ _ hra (lk_mut hra er), s5.kp _ _ nspa (lk_mut nspa esp), nspa⟩
def F_Seeker_ends (K : PySem.W.Frag) : V → Hp → VK → XK → Prop := fun x H Q _ => ∃ (a dx r sp sdx : Addr) (d : List Int) (e : Ends3) (t : Nat), x = .ref a ∧ SeekAt K H a dx r sp sdx d e t ∧ ∀ p, H p = none → Q (.ref p) (upd H p (.tup (endV e)))
abbrev sp_Seeker_ends (K : PySem.W.Frag) : Sp := on1 (F_Seeker_ends K)
def t_Seeker_ends (K : PySem.W.Frag) (E : XK) : TS :=
  tRet (tMth "ends" (one (He.ga K "Span") (sp_Span_ends K)) (fun _ => E) (tFld K (tVar 0) "span") (tNil))
theorem pure_Seeker_ends {x : V} {H : Hp} {Q : VK} {E : XK} (h : F_Seeker_ends K x H Q E) : t_Seeker_ends K E ⟨fun _ H' => Q .non H', Q, fun _ _ => False, fun _ _ => False⟩ [some x] H := by
  obtain ⟨a, dx, r, sp, sdx, d, e, t, rfl, ⟨ha, hr, hsp, nsp⟩, q⟩ := h
  unfold seekF at ha
  unfold t_Seeker_ends
  walk_at "go"
  exact ⟨sp, sdx, e, rfl, hsp, q⟩
def F_Seeker_told (K : PySem.W.Frag) : V → Hp → VK → XK → Prop := fun x H Q _ => ∃ (a dx r sp sdx : Addr) (d : List Int) (e : Ends3) (t n : Nat), x = .ref a ∧ SeekAt K H a dx r sp sdx d e t ∧ WSp n e ∧ n ≤ 100000 ∧ ∀ l H', H l = none → Same H H' → H' l = some (.lst ((tell e).map V.int)) → Q (.ref l) H'
abbrev sp_Seeker_told (K : PySem.W.Frag) : Sp := on1 (F_Seeker_told K)
def F_Seeker_bit (K : PySem.W.Frag) : V → V → Hp → VK → XK → Prop := fun x y H Q E => ∃ (a dx r sp sdx : Addr) (d : List Int) (e : Ends3) (n : Nat), x = .ref a ∧ SeekAt K H a dx r sp sdx d e e.2.2.toNat ∧ Byts d ∧ d.length ≤ 100000 ∧ WSp n e ∧ n ≤ 99999 ∧ TyW K H y ∧
  (btw 32768 16744448 y = false → E (.ref (He.ga K "NoChance")) none H) ∧ ∀ c : Int, y = .int c → 32768 ≤ c → c ≤ 16744448 → ∀ H', SameX (fun b => b = a ∨ b = sp) H H' → SeekAt K H' a dx r sp sdx d (nar e c (bitOf d e c)) (nar e c (bitOf d e c)).2.2.toNat → Q (.int (bitOf d e c)) H'
abbrev sp_Seeker_bit (K : PySem.W.Frag) : Sp := on2 (F_Seeker_bit K)
def t_Seeker_bit (K : PySem.W.Frag) (E : XK) : TS :=
  tSeq (tAsg (tFun (sp_checked_chance K) [] (fun _ => E) (tCons (tVar 1) (tNil))) (gName 2))
  (tSeq (tAsg (tMth "ends" (one (He.ga K "Span") (sp_Span_ends K)) (fun _ => E) (tFld K (tVar 0) "span") (tNil)) (gTup K 3 (gCons (gName 3) (gCons (gName 4) (gCons (gName 5) (gNil))))))
  (tSeq (tAsg (tCB (rInt1) (tCons (tOp (iLt) (tFld K (tVar 0) "number") (tOp (rPlus K) (tVar 3) (tOp (rFloor) (tOp (rTimes) (tVar 4) (tVar 2)) (tC (.int 16777216))))) (tNil))) (gName 6))
  (tSeq (tDrop (tMth "narrow" (one (He.ga K "Span") (sp_Span_narrow K)) (fun _ => E) (tFld K (tVar 0) "span") (tCons (tVar 2) (tCons (tVar 6) (tNil)))))
  (tSeq (tDrop (tMth "take" (one (He.ga K "Seeker") (sp_Seeker_take K)) (fun _ => E) (tVar 0) (tNil)))
  (tRet (tVar 6))))))
theorem pure_Seeker_bit {x y : V} {H : Hp} {Q : VK} {E : XK} (h : F_Seeker_bit K x y H Q E) : t_Seeker_bit K E ⟨fun _ H' => Q .non H', Q, fun _ _ => False, fun _ _ => False⟩ [some x, some y, none, none, none, none, none] H := by
  obtain ⟨a, dx, r, sp, sdx, d, e, n, rfl, ⟨ha, hr, hsp, nsp⟩, hd, dl, w, hn, ty, r0, q⟩ := h
  unfold seekF at ha
  unfold t_Seeker_bit
  walk_at "go"
  refine ⟨ty, fun hy => ?_, r0⟩
  obtain ⟨c, rfl, c1, c2⟩ := btw_int hy
  have q := q c rfl c1 c2
  walk_at "go"
  refine ⟨sp, sdx, e, rfl, hsp, fun p np => ?_⟩
  have ep : (upd H p (.tup (endV e))) p = some (.tup [.int e.1, .int e.2.1, .int e.2.2]) := upd_same
  have X1 : SameX (fun b => b = a ∨ b = sp) H (upd H p (.tup (endV e))) := SameX.new (SameX.refl H) np
  have ha := lk_new (u := (.tup (endV e))) ha np
  have hr := lk_new (u := (.tup (endV e))) hr np
  have hsp := lk_new (u := (.tup (endV e))) hsp np
  generalize upd H p (.tup (endV e)) = H1 at ep ha hr hsp X1
  have hra : r ≠ a := ne_kind hr ha (by intro z; cases z)
  have hrs : r ≠ sp := ne_kind hr hsp (by intro z; cases z)
  walk_at "go"
  have fb : (if decide (num d e.2.2.toNat < e.1 + e.2.1 * c / 16777216) = true then (1 : Int) else 0) = bitOf d e c := by
    unfold bitOf cutOf
    by_cases k : num d e.2.2.toNat < e.1 + e.2.1 * c / 16777216
    · rw [if_pos k, if_pos (decide_eq_true k)]
    · rw [if_neg k, if_neg (by simpa using k)]
  rw [fb]
  have b01 : 0 ≤ bitOf d e c ∧ bitOf d e c ≤ 1 := by unfold bitOf; split <;> decide
  walk_at "go"
  refine narrow_of K hsp w (by omega) ⟨c1, c2⟩ b01 ?_
  have wf := nar_ok (b := bitOf d e c) w c1 c2
  have ha := lk_mut (u := .ins (He.ga K "Span") sdx (spanF (nar e c (bitOf d e c)))) nsp.symm ha
  have hr := lk_mut (u := .ins (He.ga K "Span") sdx (spanF (nar e c (bitOf d e c)))) hrs hr
  have hsp : (upd H1 sp (.ins (He.ga K "Span") sdx (spanF (nar e c (bitOf d e c))))) sp = some (.ins (He.ga K "Span") sdx (spanF (nar e c (bitOf d e c)))) := upd_same
  have X1 := X1.mut (o := .ins (He.ga K "Span") sdx (spanF (nar e c (bitOf d e c)))) (.inr rfl)
  generalize upd H1 sp (.ins (He.ga K "Span") sdx (spanF (nar e c (bitOf d e c)))) = H2 at ha hr hsp X1
  obtain ⟨j, g1, _, _⟩ : ∃ j : Nat, (nar e c (bitOf d e c)).2.2 = e.2.2 + (j : Int) ∧ True ∧ True := by
    unfold nar
    split
    · obtain ⟨j, _, h⟩ := nrm_is 5 e.1 (cutOf e c) e.2.2
      exact ⟨j, by rw [h], trivial, trivial⟩
    · obtain ⟨j, _, h⟩ := nrm_is 5 (e.1 + cutOf e c) (e.2.1 - cutOf e c) e.2.2
      exact ⟨j, by rw [h], trivial, trivial⟩
  have h5 := w.si
  walk_at "go"
  refine ⟨a, dx, r, sp, sdx, d, nar e c (bitOf d e c), e.2.2.toNat, n + 1, rfl, ⟨ha, hr, hsp, nsp⟩, by omega, hd, dl, wf, by omega, fun H3 s3 e3 => ?_⟩
  walk_at "go"
  exact q H3 (SameX.trans X1 (s3.mono fun b h => .inl h)) ⟨e3, s3.kp _ _ hra hr, s3.kp _ _ nsp hsp, nsp⟩
end
/-! a seeker made, asked -/
section
variable {K : PySem.W.Frag}
theorem seek_one {a dx r sp sdx : Addr} {d : List Int} {e : Ends3} {t : Nat} {H : Hp} {m : Str} {spc : Sp} {A : Sp → Prop} (M : SeekAt K H a dx r sp sdx d e t) (hm : List.lookup m (seekF r sp d t) = none) (q : A spc) : mthK m (one (He.ga K "Seeker") spc) (.ref a) H A := g_one M.ins hm q
theorem seeker_new {H : Hp} {h a dx : Addr} {ds : List Int} {Q : Hp → Prop} {E : XK} (eh : H h = some (.lst (ds.map V.int))) (dB : Byts ds) (dL : ds.length ≤ 12000) (na : H a = none) (ndx : H dx = none) (nad : dx ≠ a)
    (q : ∀ r sp sdx H', Same H H' → H sp = none → SeekAt K H' a dx r sp sdx ds (0, 1099511627776, 5) 5 → Q H') : F_Seeker_init K (.ref a) (.ref h) (upd (upd H dx (.own a)) a (.ins (He.ga K "Seeker") dx [])) (fun v H2 => v = .non ∧ Q H2) E := by
  have S0 : Same H (upd (upd H dx (.own a)) a (.ins (He.ga K "Seeker") dx [])) := same_mut (same_mut (Same.refl H) ndx) na
  have eh' := S0 _ _ eh
  refine ⟨a, dx, true, rfl, upd_same, SgT.of eh' ⟨dL, dB⟩ (by decide), (fun z => nomatch z), fun _ b ns' hb hbb T r sp sdx H7 nr nsp s7 M => ⟨rfl, ?_⟩⟩
  cases hb
  have : ds = ns' := List.map_inj_right (f := V.int) (fun x y h => V.int.inj h) |>.mp (HO.lst.inj (Option.some.inj (eh'.symm.trans hbb)))
  subst this
  exact q r sp sdx H7 (SameX.back1 S0 s7 na) (upd_none (upd_none nsp)) M
theorem g_dnewK {σ : St} {H : Hp} {Q : VK} (q : ∀ p, H p = none → Q (.ref p) (upd H p (.dK []))) : tDNewK σ H Q := q
theorem SgT.no {m : Nat} {H : Hp} {a : Addr} {xs : List V} (e : H a = some (.lst xs)) (l : xs.length ≤ 1000000) (t : ∀ v ∈ xs, TyW K H v) (hb : (decide (xs.length ≤ m) && xs.all (btw 0 255)) = false) : SgT K H m (.ref a) false := hb ▸ SgT.lst e l t
/-- the same chances, its own bits -/
def seekR (d : List Int) (e : Ends3) (cs : List Int) : Ends3 := cs.foldl (fun e c => nar e c (bitOf d e c)) e
theorem seekR_take {d : List Int} {e : Ends3} {cs : List Int} {i : Nat} {c : Int} (h : cs[i]? = some c) : seekR d e (cs.take (i + 1)) = nar (seekR d e (cs.take i)) c (bitOf d (seekR d e (cs.take i)) c) := by
  unfold seekR
  rw [List.take_add_one, h, List.foldl_append]
  rfl
theorem seekR_ok {d : List Int} {cs : List Int} : ∀ {n : Nat} {e : Ends3}, (∀ c ∈ cs, 32768 ≤ c ∧ c ≤ 16744448) → WSp n e → WSp (n + cs.length) (seekR d e cs) := by
  induction cs with
  | nil => intro n e _ w; exact w
  | cons c cs ih =>
    intro n e h w
    have c1 := h c List.mem_cons_self
    have := ih (n := n + 1) (e := nar e c (bitOf d e c)) (fun q hq => h q (List.mem_cons_of_mem _ hq)) (nar_ok w c1.1 c1.2)
    have e1 : n + (c :: cs).length = n + 1 + cs.length := by rw [List.length_cons]; omega
    rw [e1]
    exact this
end
/-! what is settled of a span -/
def stK : Nat → Int → Int → Nat
  | 0, _, _ => 0
  | n + 1, f, l => if f = l then 0 else stK n (f / 256) (l / 256) + 1
theorem div256 (x : Int) (i : Nat) : x / 256 / 256 ^ i = x / 256 ^ (i + 1) := by
  rw [Int.ediv_ediv_of_nonneg (by decide), Int.pow_succ, Int.mul_comm]
theorem div256' (x : Int) (i : Nat) : x / 256 ^ i / 256 = x / 256 ^ (i + 1) := by
  rw [Int.ediv_ediv_of_nonneg (Int.pow_nonneg (by decide)), Int.pow_succ]
theorem div256s (x : Int) (i j : Nat) : x / 256 ^ i / 256 ^ j = x / 256 ^ (i + j) := by
  rw [Int.ediv_ediv_of_nonneg (Int.pow_nonneg (by decide)), Int.pow_add]
theorem stK_le : ∀ (n : Nat) (f l : Int), stK n f l ≤ n
  | 0, _, _ => Nat.le_refl _
  | n + 1, f, l => by
    unfold stK
    split
    · omega
    · have := stK_le n (f / 256) (l / 256); omega
theorem stK_eq : ∀ (n : Nat) (f l : Int), 0 ≤ f → f < 256 ^ n → 0 ≤ l → l < 256 ^ n → f / 256 ^ stK n f l = l / 256 ^ stK n f l
  | 0, f, l, a, b, c, d => by
    simp at b d
    have : f = l := by omega
    rw [this]
  | n + 1, f, l, a, b, c, d => by
    unfold stK
    split
    · rename_i h; rw [h]
    · rw [Int.pow_succ] at b d
      have := stK_eq n (f / 256) (l / 256) (by omega) (by omega) (by omega) (by omega)
      rwa [div256, div256] at this
theorem stK_ne : ∀ (n : Nat) (f l : Int) (i : Nat), i < stK n f l → f / 256 ^ i ≠ l / 256 ^ i
  | 0, f, l, i, h => by unfold stK at h; omega
  | n + 1, f, l, i, h => by
    unfold stK at h
    split at h
    · omega
    · rename_i hne
      cases i with
      | zero => simpa using hne
      | succ i =>
        have := stK_ne n (f / 256) (l / 256) i (by omega)
        rwa [div256, div256] at this
/-- the least: whatever makes them alike is no less -/
theorem stK_least {n : Nat} {f l : Int} {i : Nat} (h : f / 256 ^ i = l / 256 ^ i) : stK n f l ≤ i := by
  rcases Nat.lt_or_ge i (stK n f l) with k | k
  · exact absurd h (stK_ne n f l i k)
  · exact k
def setK (e : Ends3) : Nat := stK e.2.2.toNat e.1 (e.1 + e.2.1 - 1)
def setl (e : Ends3) : List Int := byt (e.2.2.toNat - setK e) (e.1 / 256 ^ setK e)
structure Sets (e : Ends3) (k : Nat) : Prop where
  le : k ≤ e.2.2.toNat
  eq : e.1 / 256 ^ k = (e.1 + e.2.1 - 1) / 256 ^ k
  ne : ∀ i, i < k → e.1 / 256 ^ i ≠ (e.1 + e.2.1 - 1) / 256 ^ i
theorem sets {n : Nat} {e : Ends3} (w : WSp n e) : Sets e (setK e) := by
  have h1 := w.lo
  have h2 := w.wi
  have h3 := w.fit
  exact ⟨stK_le _ _ _, stK_eq _ _ _ (by omega) (by omega) (by omega) (by omega), fun i h => stK_ne _ _ _ i h⟩
theorem byt_take : ∀ (k m : Nat) (v : Int), m ≤ k → (byt k v).take m = byt m (v / 256 ^ (k - m))
  | 0, m, v, h => by
    have : m = 0 := by omega
    subst this; rfl
  | k + 1, m, v, h => by
    by_cases e : m = k + 1
    · subst e
      rw [List.take_of_length_le (by rw [byt_len]; exact Nat.le_refl _), Nat.sub_self]
      simp
    · have hm : m ≤ k := by omega
      rw [byt, List.take_append_of_le_length (by rw [byt_len]; exact hm), byt_take k m _ hm, div256]
      congr 3
      omega
theorem div_lt256 {x : Int} {k s : Nat} (h : k ≤ s) (h0 : 0 ≤ x) (hx : x < 256 ^ s) : 0 ≤ x / 256 ^ k ∧ x / 256 ^ k < 256 ^ (s - k) := by
  have hp : (0 : Int) < 256 ^ k := Int.pow_pos (by decide)
  refine ⟨Int.ediv_nonneg h0 (Int.le_of_lt hp), Int.ediv_lt_of_lt_mul hp ?_⟩
  rw [← Int.pow_add]
  have : s - k + k = s := by omega
  rw [this]
  exact hx
/-- a number between others that are alike but for the last bytes is alike them, too -/
theorem div_amid {a b x d q : Int} (hd : 0 < d) (h1 : a ≤ x) (h2 : x ≤ b) (ha : a / d = q) (hb : b / d = q) : x / d = q := by
  have := Int.ediv_le_ediv hd h1
  have := Int.ediv_le_ediv hd h2
  omega
/-- inner spans go on from what is settled of the outer one -/
theorem set_goes {e f : Ends3} {j : Nat} {n m : Nat} (we : WSp n e) (wf : WSp m f) (hs : f.2.2 = e.2.2 + (j : Int)) (h1 : e.1 * 256 ^ j ≤ f.1) (h2 : f.1 + f.2.1 ≤ (e.1 + e.2.1) * 256 ^ j) :
    (setl f).take (setl e).length = setl e := by
  have E := sets we
  have F := sets wf
  have e5 := we.si
  have fw := wf.wi
  have hj : (0 : Int) < 256 ^ j := Int.pow_pos (by decide)
  have hk : (0 : Int) < 256 ^ (setK e + j) := Int.pow_pos (by decide)
  have low : e.1 * 256 ^ j / 256 ^ (setK e + j) = e.1 / 256 ^ setK e := by
    rw [Nat.add_comm, ← div256s, Int.mul_ediv_cancel _ (by omega)]
  have top : ((e.1 + e.2.1) * 256 ^ j - 1) / 256 ^ (setK e + j) = e.1 / 256 ^ setK e := by
    rw [Nat.add_comm, ← div256s]
    have : ((e.1 + e.2.1) * 256 ^ j - 1) / 256 ^ j = e.1 + e.2.1 - 1 := by
      have p : (e.1 + e.2.1) * 256 ^ j - 1 = (256 ^ j - 1) + (e.1 + e.2.1 - 1) * 256 ^ j := by rw [Int.sub_mul]; omega
      rw [p, Int.add_mul_ediv_right _ _ (by omega), Int.ediv_eq_zero_of_lt (by omega) (by omega), Int.zero_add]
    rw [this, E.eq]
  have A : f.1 / 256 ^ (setK e + j) = e.1 / 256 ^ setK e := div_amid hk h1 (by omega) low top
  have B : (f.1 + f.2.1 - 1) / 256 ^ (setK e + j) = e.1 / 256 ^ setK e := div_amid hk (by omega) (by omega) low top
  have K : setK f ≤ setK e + j := stK_least (by rw [A, B])
  have le := E.le
  have lf := F.le
  unfold setl
  rw [byt_len, byt_take _ _ _ (by omega), div256s]
  congr 1
  rw [← A]
  congr 2
  omega
theorem tell_goes {n : Nat} {e : Ends3} (w : WSp n e) : (tell e).take (setl e).length = setl e := by
  have E := sets w
  obtain ⟨T, _, _⟩ := tells w
  have le := E.le
  have tb := T.b5
  have ws := w.si
  have hi := T.hi
  have lo := T.lo
  have hk : (0 : Int) < 256 ^ setK e := Int.pow_pos (by decide)
  have hb : (0 : Int) < 256 ^ tellB e := Int.pow_pos (by decide)
  rw [Int.add_mul] at hi
  have K : tellB e ≤ setK e := by
    rcases Nat.lt_or_ge (setK e) (tellB e) with c | c
    · have p : (256 : Int) ^ tellB e = 256 ^ (tellB e - setK e - 1) * 256 * 256 ^ setK e := by
        rw [← Int.pow_succ, ← Int.pow_add]
        congr 1
        omega
      have q : (0 : Int) < 256 ^ (tellB e - setK e - 1) := Int.pow_pos (by decide)
      have r : 256 ^ setK e * 2 ≤ (256 : Int) ^ tellB e := by
        rw [p, Int.mul_comm]
        exact Int.mul_le_mul_of_nonneg_right (by omega) (by omega)
      have d1 : e.1 / 256 ^ setK e * 256 ^ setK e + e.1 % 256 ^ setK e = e.1 := by rw [Int.mul_comm]; exact Int.mul_ediv_add_emod _ _
      have d2 : (e.1 + e.2.1 - 1) / 256 ^ setK e * 256 ^ setK e + (e.1 + e.2.1 - 1) % 256 ^ setK e = e.1 + e.2.1 - 1 := by rw [Int.mul_comm]; exact Int.mul_ediv_add_emod _ _
      have m1 := Int.emod_nonneg e.1 (Int.ne_of_gt hk)
      have m2 := Int.emod_lt_of_pos (e.1 + e.2.1 - 1) hk
      rw [← E.eq] at d2
      omega
    · exact c
  have A : tellF e * 256 ^ tellB e / 256 ^ setK e = e.1 / 256 ^ setK e := div_amid hk lo (by omega) rfl E.eq.symm
  unfold setl tell
  rw [byt_len, byt_take _ _ _ (by omega)]
  congr 1
  rw [← A]
  have k : setK e = tellB e + (e.2.2.toNat - tellB e - (e.2.2.toNat - setK e)) := by omega
  rw [k, ← div256s, Int.mul_ediv_cancel _ (by omega)]
  congr 2
  omega
theorem nar_in {n : Nat} {e : Ends3} {c b : Int} (w : WSp n e) (c1 : 32768 ≤ c) (c2 : c ≤ 16744448) : ∃ j : Nat, (nar e c b).2.2 = e.2.2 + (j : Int) ∧ e.1 * 256 ^ j ≤ (nar e c b).1 ∧ (nar e c b).1 + (nar e c b).2.1 ≤ (e.1 + e.2.1) * 256 ^ j := by
  obtain ⟨p, q⟩ := cut_ok w.wi w.wi2 c1 c2
  unfold nar
  by_cases hb : b = 1
  · rw [if_pos hb]
    obtain ⟨j, _, h⟩ := nrm_is 5 e.1 (cutOf e c) e.2.2
    have hj : (0 : Int) ≤ 256 ^ j := Int.pow_nonneg (by decide)
    rw [h]
    refine ⟨j, rfl, Int.le_refl _, ?_⟩
    show e.1 * 256 ^ j + cutOf e c * 256 ^ j ≤ _
    rw [← Int.add_mul]
    exact Int.mul_le_mul_of_nonneg_right (by unfold cutOf; omega) hj
  · rw [if_neg hb]
    obtain ⟨j, _, h⟩ := nrm_is 5 (e.1 + cutOf e c) (e.2.1 - cutOf e c) e.2.2
    have hj : (0 : Int) ≤ 256 ^ j := Int.pow_nonneg (by decide)
    rw [h]
    refine ⟨j, rfl, Int.mul_le_mul_of_nonneg_right (by unfold cutOf; omega) hj, ?_⟩
    show (e.1 + cutOf e c) * 256 ^ j + (e.2.1 - cutOf e c) * 256 ^ j ≤ _
    rw [← Int.add_mul]
    exact Int.mul_le_mul_of_nonneg_right (by omega) hj
section
variable (K : PySem.W.Frag) [HasCls K "Span"] [HasNo K "Span" "low"] [HasNo K "Span" "width"] [HasNo K "Span" "size"]
def F_Span_settled (K : PySem.W.Frag) : V → Hp → VK → XK → Prop := fun x H Q _ => ∃ (a dx : Addr) (e : Ends3) (n : Nat), x = .ref a ∧ H a = some (.ins (He.ga K "Span") dx (spanF e)) ∧ WSp n e ∧ n ≤ 100000 ∧ ∀ l H', H l = none → Same H H' → H' l = some (.lst ((setl e).map V.int)) → Q (.ref l) H'
abbrev sp_Span_settled (K : PySem.W.Frag) : Sp := on1 (F_Span_settled K)
def t_Span_settled (K : PySem.W.Frag) (E : XK) : TS :=
  tSeq (tAsg (tFld K (tVar 0) "low") (gName 1))
  (tSeq (tAsg (tOp (rMinus) (tOp (rPlus K) (tFld K (tVar 0) "low") (tFld K (tVar 0) "width")) (tC (.int 1))) (gName 2))
  (tSeq (tAsg (tFld K (tVar 0) "size") (gName 3))
  (tSeq (tWhile (tTest (tOp (rDiff K) (tVar 1) (tVar 2))) (tSeq (tAsg (tOp (rRsh) (tVar 1) (tC (.int 8))) (gName 1))
  (tSeq (tAsg (tOp (rRsh) (tVar 2) (tC (.int 8))) (gName 2))
  (tAug 3 (tC (.int 1)) (ipI fun i j => i - j)))))
  (tRet (tFun (sp_bytes_of_number K) [] (fun _ => E) (tCons (tVar 1) (tCons (tVar 3) (tNil))))))))
theorem pure_Span_settled {x : V} {H : Hp} {Q : VK} {E : XK} (h : F_Span_settled K x H Q E) : t_Span_settled K E ⟨fun _ H' => Q .non H', Q, fun _ _ => False, fun _ _ => False⟩ [some x, none, none, none] H := by
  obtain ⟨a, dx, e, n, rfl, ha, w, hn, q⟩ := h
  have E := sets w
  have le := E.le
  have h5 := w.si
  have h6 := w.si2
  unfold spanF at ha
  unfold t_Span_settled
  walk_at "go"
  refine g_while (fun m σ H' => ∃ i : Nat, i + m = setK e ∧ σ = [some (.ref a), some (.int (e.1 / 256 ^ i)), some (.int ((e.1 + e.2.1 - 1) / 256 ^ i)), some (.int (e.2.2 - (i : Int)))] ∧ H' = H) (setK e) ⟨0, by omega, by simp, rfl⟩ ?_
  rintro m σ H' ⟨i, hi, rfl, rfl⟩
  walk_at "go"
  refine difN (fun h => ?_) fun h => ?_
  · walk_at "go"
    refine g_shr8 ?_
    walk_at "go"
    refine g_shr8 ?_
    walk_at "go"
    have m0 : m ≠ 0 := fun z => h (by have : i = setK e := by omega
                                      rw [this]; exact E.eq)
    refine ⟨m - 1, by omega, i + 1, by omega, ?_, rfl⟩
    rw [div256', div256']
    simp only [List.cons.injEq, Option.some.injEq, V.int.injEq, true_and, and_true]
    omega
  · walk_at "go"
    have k : i = setK e := by
      rcases Nat.lt_or_ge i (setK e) with c | c
      · exact absurd h (E.ne i c)
      · omega
    exact ⟨_, e.2.2.toNat - setK e, rfl, by congr 1; omega, by omega, fun l H1 nl s el => q l H1 nl s (by rw [el]; unfold setl; rw [k])⟩
end
/-! k04: what a span, a seeker refuse -/
section
variable {K : PySem.W.Frag}
theorem ty_non {H : Hp} : TyW K H .non := .inr (.inr ⟨rfl, "NoneType", .base .non, by decide +kernel⟩)
theorem ty_str {H : Hp} {z : Str} : TyW K H (.str z) := .inr (.inr ⟨rfl, "str", .base (.str _), by decide +kernel⟩)
theorem ty_bl {H : Hp} {b : Bool} : TyW K H (.bl b) := .inr (.inl ⟨b, rfl⟩)
theorem ty_lst {H : Hp} {a : Addr} {xs : List V} (h : H a = some (.lst xs)) : TyW K H (.ref a) := .inr (.inr ⟨rfl, "list", .base (.lst h), by decide +kernel⟩)
theorem ty_tup {H : Hp} {a : Addr} {xs : List V} (h : H a = some (.tup xs)) : TyW K H (.ref a) := .inr (.inr ⟨rfl, "tuple", .base (.tup h), by decide +kernel⟩)
theorem ty_dK {H : Hp} {a : Addr} {ks : List (Key × V)} (h : H a = some (.dK ks)) : TyW K H (.ref a) := .inr (.inr ⟨rfl, "dict", .base (.dK h), by decide +kernel⟩)
theorem fourteen {H : Hp} {a b c : Addr} {xs ys : List V} {ks : List (Key × V)} (h1 : H a = some (.lst xs)) (h2 : H b = some (.tup ys)) (h3 : H c = some (.dK ks)) {j : Int} (h : 0 ≤ j ∧ j < 14) :
    ∃ v, atI [V.int 32767, V.int 16744449, V.int 0, V.int 1, V.int (-1), V.int (-32768), V.int 16777216, V.int (10 ^ 60), V.bl true, V.non, V.str "8388608", V.ref a, V.ref b, V.ref c] j = some v ∧ TyW K H v ∧ btw 32768 16744448 v = false := by
  have k : j = 0 ∨ j = 1 ∨ j = 2 ∨ j = 3 ∨ j = 4 ∨ j = 5 ∨ j = 6 ∨ j = 7 ∨ j = 8 ∨ j = 9 ∨ j = 10 ∨ j = 11 ∨ j = 12 ∨ j = 13 := by omega
  rcases k with rfl | rfl | rfl | rfl | rfl | rfl | rfl | rfl | rfl | rfl | rfl | rfl | rfl | rfl
  · exact ⟨_, rfl, .int, by decide⟩
  · exact ⟨_, rfl, .int, by decide⟩
  · exact ⟨_, rfl, .int, by decide⟩
  · exact ⟨_, rfl, .int, by decide⟩
  · exact ⟨_, rfl, .int, by decide⟩
  · exact ⟨_, rfl, .int, by decide⟩
  · exact ⟨_, rfl, .int, by decide⟩
  · exact ⟨_, rfl, .int, by decide⟩
  · exact ⟨_, rfl, ty_bl, rfl⟩
  · exact ⟨_, rfl, ty_non, rfl⟩
  · exact ⟨_, rfl, ty_str, rfl⟩
  · exact ⟨_, rfl, ty_lst h1, rfl⟩
  · exact ⟨_, rfl, ty_tup h2, rfl⟩
  · exact ⟨_, rfl, ty_dK h3, rfl⟩
theorem ten {H : Hp} {a b c : Addr} {xs ys : List V} {ks : List (Key × V)} (h1 : H a = some (.lst xs)) (h2 : H b = some (.tup ys)) (h3 : H c = some (.dK ks)) {j : Int} (h : 0 ≤ j ∧ j < 10) :
    ∃ v, atI [V.int 2, V.int (-1), V.bl true, V.bl false, V.non, V.str "0", V.ref a, V.ref b, V.int (10 ^ 60), V.ref c] j = some v ∧ TyW K H v ∧ btw 0 1 v = false := by
  have k : j = 0 ∨ j = 1 ∨ j = 2 ∨ j = 3 ∨ j = 4 ∨ j = 5 ∨ j = 6 ∨ j = 7 ∨ j = 8 ∨ j = 9 := by omega
  rcases k with rfl | rfl | rfl | rfl | rfl | rfl | rfl | rfl | rfl | rfl
  · exact ⟨_, rfl, .int, by decide⟩
  · exact ⟨_, rfl, .int, by decide⟩
  · exact ⟨_, rfl, ty_bl, rfl⟩
  · exact ⟨_, rfl, ty_bl, rfl⟩
  · exact ⟨_, rfl, ty_non, rfl⟩
  · exact ⟨_, rfl, ty_str, rfl⟩
  · exact ⟨_, rfl, ty_lst h1, rfl⟩
  · exact ⟨_, rfl, ty_tup h2, rfl⟩
  · exact ⟨_, rfl, .int, by decide⟩
  · exact ⟨_, rfl, ty_dK h3, rfl⟩
/-- the things that are no bytes -/
structure Nine (K : PySem.W.Frag) (H : Hp) (a b c d e f g : Addr) : Prop where
  fa : H a = some (.tup [.int 1, .int 2])
  fb : H b = some (.lst [.int 256])
  fc : H c = some (.lst [.int 0, .int (-1)])
  fd : H d = some (.lst [.bl true])
  fe : H e = some (.lst (List.replicate 12001 (.int 0)))
  ff : H f = some (.lst [.int 0])
  fg : H g = some (.lst [.ref f])
theorem nine {H : Hp} {a b c d e f g : Addr} (n : Nine K H a b c d e f g) {j : Int} (h : 0 ≤ j ∧ j < 9) : ∃ v, atI [V.non, V.int 7, V.str "ab", V.ref a, V.ref b, V.ref c, V.ref d, V.ref e, V.ref g] j = some v ∧ SgT K H 12000 v false := by
  have k : j = 0 ∨ j = 1 ∨ j = 2 ∨ j = 3 ∨ j = 4 ∨ j = 5 ∨ j = 6 ∨ j = 7 ∨ j = 8 := by omega
  have s1 : ∀ {x : V} {xs : List V}, TyW K H x → (∀ v ∈ xs, TyW K H v) → ∀ v ∈ x :: xs, TyW K H v := fun t u v hv => by
    rcases List.mem_cons.mp hv with rfl | hv
    · exact t
    · exact u v hv
  have s0 : ∀ v ∈ ([] : List V), TyW K H v := fun v hv => nomatch hv
  rcases k with rfl | rfl | rfl | rfl | rfl | rfl | rfl | rfl | rfl
  · exact ⟨_, rfl, .other (.base .non) (by decide +kernel)⟩
  · exact ⟨_, rfl, .other (.base (.int _)) (by decide +kernel)⟩
  · exact ⟨_, rfl, .other (.base (.str _)) (by decide +kernel)⟩
  · exact ⟨_, rfl, .other (.base (.tup n.fa)) (by decide +kernel)⟩
  · exact ⟨_, rfl, .no n.fb (by decide) (s1 .int s0) (by decide)⟩
  · exact ⟨_, rfl, .no n.fc (by decide) (s1 .int (s1 .int s0)) (by decide)⟩
  · exact ⟨_, rfl, .no n.fd (by decide) (s1 ty_bl s0) (by decide)⟩
  · exact ⟨_, rfl, .no n.fe (by rw [List.length_replicate]; decide) (fun v hv => by rw [List.eq_of_mem_replicate hv]; exact .int) (by rw [List.length_replicate]; rfl)⟩
  · exact ⟨_, rfl, .no n.fg (by show 1 ≤ 1000000; decide) (s1 (ty_lst n.ff) s0) rfl⟩
theorem SgT.same {m : Nat} {H H1 : Hp} {x : V} {b : Bool} (h : SgT K H m x b) (s : Same H H1) : SgT K H1 m x b := by
  cases h with
  | lst e l t => exact .lst (s _ _ e) l fun v hv => tyw_same s (t v hv)
  | other t k => exact .other (tyx_same s t) k
theorem nar_ne {n : Nat} {e : Ends3} {c b : Int} (w : WSp n e) (c1 : 32768 ≤ c) (c2 : c ≤ 16744448) : nar e c b ≠ e := by
  obtain ⟨p, q⟩ := cut_ok w.wi w.wi2 c1 c2
  intro h
  unfold nar at h
  split at h
  · obtain ⟨j, _, g⟩ := nrm_is 5 e.1 (cutOf e c) e.2.2
    rw [g] at h
    have h2 : cutOf e c * 256 ^ j = e.2.1 := congrArg (fun z => z.2.1) h
    have h3 : e.2.2 + (j : Int) = e.2.2 := congrArg (fun z => z.2.2) h
    have j0 : j = 0 := by omega
    subst j0
    unfold cutOf at h2
    simp at h2
    omega
  · obtain ⟨j, _, g⟩ := nrm_is 5 (e.1 + cutOf e c) (e.2.1 - cutOf e c) e.2.2
    rw [g] at h
    have h2 : (e.2.1 - cutOf e c) * 256 ^ j = e.2.1 := congrArg (fun z => z.2.1) h
    have h3 : e.2.2 + (j : Int) = e.2.2 := congrArg (fun z => z.2.2) h
    have j0 : j = 0 := by omega
    subst j0
    unfold cutOf at h2
    simp at h2
    omega
theorem okd_nil {n : Nat} : ∀ d ∈ ([] : List PyData), Okd n d := fun d h => nomatch h
theorem okd_cons {n : Nat} {d : PyData} {ds : List PyData} (h : Okd n d) (hs : ∀ x ∈ ds, Okd n x) : ∀ x ∈ d :: ds, Okd n x := fun x hx => by
  rcases List.mem_cons.mp hx with rfl | hx
  · exact h
  · exact hs x hx
theorem tell_len {n : Nat} {e : Ends3} (w : WSp n e) (hn : n ≤ 1000) : (tell e).length ≤ 10000 := by
  have := w.si2
  have := w.si
  unfold tell
  rw [byt_len]
  omega
structure Tw (K : PySem.W.Frag) (H : Hp) (x : V) : Prop where t : TyW K H x
theorem Tw.same {K : PySem.W.Frag} {H H1 : Hp} {x : V} (h : Tw K H x) (s : Same H H1) : Tw K H1 x := ⟨tyw_same s h.t⟩
structure Sg (K : PySem.W.Frag) (H : Hp) (x : V) : Prop where t : SgT K H 12000 x false
theorem Sg.same {K : PySem.W.Frag} {H H1 : Hp} {x : V} (h : Sg K H x) (s : Same H H1) : Sg K H1 x := ⟨h.t.same s⟩
structure Held (H : Hp) (h v1 l1 l2 v2 : Addr) (e f : Ends3) : Prop where
  h : H h = some (.lst [.ref v1, .ref l1, .ref l2, .ref v2])
  a : H v1 = some (.tup (endV e))
  b : H l1 = some (.lst ((tell e).map V.int))
  c : H l2 = some (.lst ((setl e).map V.int))
  d : H v2 = some (.tup (endV f))
theorem Held.same {H H1 : Hp} {h v1 l1 l2 v2 : Addr} {e f : Ends3} (p : Held H h v1 l1 l2 v2 e f) (s : Same H H1) : Held H1 h v1 l1 l2 v2 e f := ⟨s _ _ p.h, s _ _ p.a, s _ _ p.b, s _ _ p.c, s _ _ p.d⟩
theorem Held.kept {H H1 : Hp} {h v1 l1 l2 v2 : Addr} {e f : Ends3} {M : Addr → Prop} (p : Held H h v1 l1 l2 v2 e f) (s : SameX M H H1) (n : ∀ b o, H b = some o → M b → ∃ C dx fs, o = .ins C dx fs) : Held H1 h v1 l1 l2 v2 e f := by
  have k : ∀ {b : Addr} {xs : List V}, H b = some (.lst xs) → H1 b = some (.lst xs) := fun hb => s.kp _ _ (fun m => by obtain ⟨C, dx, fs, z⟩ := n _ _ hb m; cases z) hb
  have k2 : ∀ {b : Addr} {xs : List V}, H b = some (.tup xs) → H1 b = some (.tup xs) := fun hb => s.kp _ _ (fun m => by obtain ⟨C, dx, fs, z⟩ := n _ _ hb m; cases z) hb
  exact ⟨k p.h, k2 p.a, k p.b, k p.c, k2 p.d⟩
theorem Held.diff {H : Hp} {h v1 l1 l2 v2 k u1 m1 m2 u2 : Addr} {e f : Ends3} {Q : VK} (p : Held H h v1 l1 l2 v2 e f) (r : Held H k u1 m1 m2 u2 e f) (q : Q (.bl false) H) : rDiff K (.ref h) (.ref k) H Q := by
  have dp : ∀ {h v1 l1 l2 v2 : Addr}, Held H h v1 l1 l2 v2 e f → Dp K H (.ref h) (.list [.tuple ([e.1, e.2.1, e.2.2].map PyData.int), .list ((tell e).map PyData.int), .list ((setl e).map PyData.int), .tuple ([f.1, f.2.1, f.2.2].map PyData.int)]) := fun p =>
    .lst (sq_of p.h) (.cons (.tup (xs := [e.1, e.2.1, e.2.2].map V.int) (stt_of p.a) dpAll_ints) (.cons (.lst (sq_of p.b) dpAll_ints) (.cons (.lst (sq_of p.c) dpAll_ints) (.cons (.tup (xs := [f.1, f.2.1, f.2.2].map V.int) (stt_of p.d) dpAll_ints) .nil))))
  have ok : Okd 2 (.list [.tuple ([e.1, e.2.1, e.2.2].map PyData.int), .list ((tell e).map PyData.int), .list ((setl e).map PyData.int), .tuple ([f.1, f.2.1, f.2.2].map PyData.int)]) :=
    okd_lst (okd_cons (okd_tup okd_ints) (okd_cons (okd_lst okd_ints) (okd_cons (okd_lst okd_ints) (okd_cons (okd_tup okd_ints) okd_nil))))
  exact g_diffD (b := true) (dp p) (dp r) ok ok (by decide) (by decide) ⟨fun _ => rfl, fun _ => rfl⟩ q
theorem chs (ms : List Int) : ∀ c ∈ ms.map stepC, 32768 ≤ c ∧ c ≤ 16744448 := fun c hc => by
  obtain ⟨z, _, rfl⟩ := List.mem_map.mp hc
  exact stepC_ok z
abbrev e0 : Ends3 := (0, 1099511627776, 5)
/-- what the law holds: the span, the seeker -/
structure Both (K : PySem.W.Frag) (H : Hp) (s0 ds0 a dx r sp sdx : Addr) (ds : List Int) (e f : Ends3) : Prop where
  es : H s0 = some (.ins (He.ga K "Span") ds0 (spanF e))
  M : SeekAt K H a dx r sp sdx ds f f.2.2.toNat
  na : s0 ≠ a
  ns : s0 ≠ sp
theorem Both.same {H H1 : Hp} {s0 ds0 a dx r sp sdx : Addr} {ds : List Int} {e f : Ends3} (h : Both K H s0 ds0 a dx r sp sdx ds e f) (s : Same H H1) : Both K H1 s0 ds0 a dx r sp sdx ds e f := ⟨s _ _ h.es, h.M.same s, h.na, h.ns⟩
theorem e0w : WSp 0 e0 := wsp0'
end
section
variable (K : PySem.W.Frag)
  [HasExc K "NoChance"] [HasExm K "NoChance" "ForetellError" true] [HasKitT K "NoChance" "ValueError" true] [HasKit K "NoChance" "NoChance" true] [HasKit K "NoChance" "NoBit" false] [HasKit K "NoChance" "NoBytes" false] [HasKit K "NoChance" "NoMost" false] [HasKit K "NoChance" "NoPress" false] [HasKit K "NoChance" "NoText" false]
  [HasExc K "NoBit"] [HasExm K "NoBit" "ForetellError" true] [HasKitT K "NoBit" "ValueError" true] [HasKit K "NoBit" "NoChance" false] [HasKit K "NoBit" "NoBit" true] [HasKit K "NoBit" "NoBytes" false] [HasKit K "NoBit" "NoMost" false] [HasKit K "NoBit" "NoPress" false] [HasKit K "NoBit" "NoText" false]
  [HasExc K "NoBytes"] [HasExm K "NoBytes" "ForetellError" true] [HasKitT K "NoBytes" "ValueError" true] [HasKit K "NoBytes" "NoChance" false] [HasKit K "NoBytes" "NoBit" false] [HasKit K "NoBytes" "NoBytes" true] [HasKit K "NoBytes" "NoMost" false] [HasKit K "NoBytes" "NoPress" false] [HasKit K "NoBytes" "NoText" false]
  [HasCls K "Seeker"] [HasNo K "Seeker" "row"] [HasNo K "Seeker" "span"] [HasNo K "Seeker" "number"] [HasNo K "Seeker" "taken"] [HasCls K "Span"] [HasNo K "Span" "low"] [HasNo K "Span" "width"] [HasNo K "Span" "size"]
def Hands (H : Hp) (Q : VK) (bs : List Bool) : Prop := ∀ l H', H l = none → Same H H' → H' l = some (.lst (bs.map V.bl)) → Q (.ref l) H'
def F_Lkinds (K : PySem.W.Frag) : V → V → V → V → Hp → VK → XK → Prop := fun x y z u H Q _ => ∃ w : Int, x = .int w ∧ TyW K H z ∧ TyW K H u ∧
  ((w = 0 ∧ ∃ a dx e n, y = .ref a ∧ H a = some (.ins (He.ga K "Span") dx (spanF e)) ∧ WSp n e ∧ n ≤ 100000 ∧ (btw 32768 16744448 z = true → btw 0 1 u = true → False) ∧ (btw 32768 16744448 z = false → Hands H Q [true, false, false, true, false]) ∧ (btw 32768 16744448 z = true → Hands H Q [false, true, false, true, false])) ∨
  (w = 1 ∧ ∃ a dx r sp sdx d e n, y = .ref a ∧ SeekAt K H a dx r sp sdx d e e.2.2.toNat ∧ Byts d ∧ d.length ≤ 100000 ∧ WSp n e ∧ n ≤ 99999 ∧ btw 32768 16744448 z = false ∧ Hands H Q [true, false, false, true, false]) ∨
  (w = 2 ∧ SgT K H 12000 y false ∧ Hands H Q [false, false, true, true, false]))
abbrev sp_Lkinds (K : PySem.W.Frag) : Sp := on4 (F_Lkinds K)
def t_Lkinds (K : PySem.W.Frag) (E : XK) : TS :=
  tSeq (tAsg (tLst (tNil)) (gName 4))
  (tSeq (tTry K (.ref (He.ga K "ForetellError")) 5 (fun W1 => tIfS (tTest (tOp (rSame K) (tVar 0) (tC (.int 0)))) (tDrop (tMth "narrow" (one (He.ga K "Span") (sp_Span_narrow K)) (WE W1) (tVar 1) (tCons (tVar 2) (tCons (tVar 3) (tNil))))) (tIfS (tTest (tOp (rSame K) (tVar 0) (tC (.int 1)))) (tDrop (tMth "bit" (one (He.ga K "Seeker") (sp_Seeker_bit K)) (WE W1) (tVar 1) (tCons (tVar 2) (tNil)))) (tDrop (tNew (He.ga K "Seeker") (sp_Seeker_init K) [] (WE W1) (tCons (tVar 1) (tNil)))))) (fun ea1 eD1 => tAsg (tLst (tCons (tCB (rIsEx K eD1 ea1) (tCons (tVar 5) (tCons (tC (.ref (He.ga K "NoChance"))) (tNil)))) (tCons (tCB (rIsEx K eD1 ea1) (tCons (tVar 5) (tCons (tC (.ref (He.ga K "NoBit"))) (tNil)))) (tCons (tCB (rIsEx K eD1 ea1) (tCons (tVar 5) (tCons (tC (.ref (He.ga K "NoBytes"))) (tNil)))) (tCons (tCB (rIsEx K eD1 ea1) (tCons (tVar 5) (tCons (tC (.ty "ValueError")) (tNil)))) (tCons (tCB (rIsEx K eD1 ea1) (tCons (tVar 5) (tCons (tTup (tCons (tC (.ref (He.ga K "NoMost"))) (tCons (tC (.ref (He.ga K "NoPress"))) (tCons (tC (.ref (He.ga K "NoText"))) (tNil))))) (tNil)))) (tNil))))))) (gName 4)) (fun cls d _ H => E cls d H))
  (tRet (tVar 4)))
theorem pure_Lkinds {x y z u : V} {H : Hp} {Q : VK} {E : XK} (h : F_Lkinds K x y z u H Q E) : t_Lkinds K E ⟨fun _ H' => Q .non H', Q, fun _ _ => False, fun _ _ => False⟩ [some x, some y, some z, some u, none, none] H := by
  obtain ⟨w, rfl, tz, tu, h⟩ := h
  unfold t_Lkinds
  walk_at "go"
  intro k nk
  have s := same_new (u := .lst []) (Same.refl H) nk
  generalize upd H k (.lst []) = H1 at s
  walk_at "go"
  refine g_try ?_
  rcases h with ⟨rfl, a, dx, e, n, rfl, ha, wi, hn, no, q1, q2⟩ | ⟨rfl, a, dx, r, sp, sdx, d, e, n, rfl, M, dB, dL, wi, hn, bz, q1⟩ | ⟨rfl, T, q1⟩
  · walk_at "go"
    refine difY rfl ?_
    walk_at "go"
    refine ⟨a, dx, e, n, rfl, s _ _ ha, wi, hn, tyw_same s tz, tyw_same s tu, fun hz => ?_, fun hz hu => ?_, fun c b e1 e2 c1 c2 b1 b2 => ?_⟩
    · refine g_we (g_caught (C := "NoChance") inferInstance inferInstance fun e ne => ?_)
      walk_at "go"
      refine g_isx1 (D := "NoChance") inferInstance ?_
      walk_at "go"
      refine g_isx1 (D := "NoBit") inferInstance ?_
      walk_at "go"
      refine g_isx1 (D := "NoBytes") inferInstance ?_
      walk_at "go"
      refine g_isxT inferInstance ?_
      walk_at "go"
      intro t nt
      walk_at "go"
      refine g_isx0 upd_same (.cons inferInstance (.cons inferInstance (.cons inferInstance .nil))) ?_
      walk_at "go"
      intro l nl
      walk_at "go"
      refine g_unset (by repeat (first | exact SetR.zero | apply SetR.succ)) ?_
      walk_at "go"
      exact q1 hz l _ (s.free (upd_none nl)) (same_new (same_new s nt) nl) upd_same
    · refine g_we (g_caught (C := "NoBit") inferInstance inferInstance fun e ne => ?_)
      walk_at "go"
      refine g_isx1 (D := "NoChance") inferInstance ?_
      walk_at "go"
      refine g_isx1 (D := "NoBit") inferInstance ?_
      walk_at "go"
      refine g_isx1 (D := "NoBytes") inferInstance ?_
      walk_at "go"
      refine g_isxT inferInstance ?_
      walk_at "go"
      intro t nt
      walk_at "go"
      refine g_isx0 upd_same (.cons inferInstance (.cons inferInstance (.cons inferInstance .nil))) ?_
      walk_at "go"
      intro l nl
      walk_at "go"
      refine g_unset (by repeat (first | exact SetR.zero | apply SetR.succ)) ?_
      walk_at "go"
      exact q2 hz l _ (s.free (upd_none nl)) (same_new (same_new s nt) nl) upd_same
    · subst e1 e2
      exact (no (by rw [btw, decide_eq_true c1, decide_eq_true c2]; rfl) (by rw [btw, decide_eq_true b1, decide_eq_true b2]; rfl)).elim
  · walk_at "go"
    refine difX (by decide) ?_
    walk_at "go"
    refine difY rfl ?_
    walk_at "go"
    refine seek_one (M.same s) rfl ?_
    walk_at "go"
    refine ⟨a, dx, r, sp, sdx, d, e, n, rfl, M.same s, dB, dL, wi, hn, tyw_same s tz, fun hz => ?_, fun c hc c1 c2 => ?_⟩
    · refine g_we (g_caught (C := "NoChance") inferInstance inferInstance fun e ne => ?_)
      walk_at "go"
      refine g_isx1 (D := "NoChance") inferInstance ?_
      walk_at "go"
      refine g_isx1 (D := "NoBit") inferInstance ?_
      walk_at "go"
      refine g_isx1 (D := "NoBytes") inferInstance ?_
      walk_at "go"
      refine g_isxT inferInstance ?_
      walk_at "go"
      intro t nt
      walk_at "go"
      refine g_isx0 upd_same (.cons inferInstance (.cons inferInstance (.cons inferInstance .nil))) ?_
      walk_at "go"
      intro l nl
      walk_at "go"
      refine g_unset (by repeat (first | exact SetR.zero | apply SetR.succ)) ?_
      walk_at "go"
      exact q1 l _ (s.free (upd_none nl)) (same_new (same_new s nt) nl) upd_same
    · subst hc
      rw [btw, decide_eq_true c1, decide_eq_true c2] at bz
      cases bz
  · walk_at "go"
    refine difX (by decide) ?_
    walk_at "go"
    refine difX (by decide) ?_
    walk_at "go"
    intro a dx na ndx nad
    walk_at "go"
    have s : Same H (upd (upd H1 dx (.own a)) a (.ins (He.ga K "Seeker") dx [])) := Same.trans s (same_mut (same_mut (Same.refl H1) ndx) na)
    refine ⟨a, dx, false, rfl, upd_same, T.same s, fun _ H2 s2 => ?_, fun z => nomatch z⟩
    have s := Same.trans s s2
    refine g_we (g_caught (C := "NoBytes") inferInstance inferInstance fun e ne => ?_)
    walk_at "go"
    refine g_isx1 (D := "NoChance") inferInstance ?_
    walk_at "go"
    refine g_isx1 (D := "NoBit") inferInstance ?_
    walk_at "go"
    refine g_isx1 (D := "NoBytes") inferInstance ?_
    walk_at "go"
    refine g_isxT inferInstance ?_
    walk_at "go"
    intro t nt
    walk_at "go"
    refine g_isx0 upd_same (.cons inferInstance (.cons inferInstance (.cons inferInstance .nil))) ?_
    walk_at "go"
    intro l nl
    walk_at "go"
    refine g_unset (by repeat (first | exact SetR.zero | apply SetR.succ)) ?_
    walk_at "go"
    exact q1 l _ (s.free (upd_none nl)) (same_new (same_new s nt) nl) upd_same
def F_law (K : PySem.W.Frag) : V → Hp → VK → XK → Prop := fun x H Q _ => ∃ (a : Addr) (ns : List Int), x = .ref a ∧ SqL K H a (ns.map V.int) ∧ ns.length ≤ 63 ∧ ∀ H', Q (.bl true) H'
abbrev sp_law (K : PySem.W.Frag) : Sp := on1 (F_law K)
def t_law (K : PySem.W.Frag) (E : XK) : TS :=
  tSeq (tAsg (tNew (He.ga K "Span") (sp_Span_init K) [] (fun _ => E) (tNil)) (gName 1))
  (tSeq (tAsg (tNew (He.ga K "Seeker") (sp_Seeker_init K) [] (fun _ => E) (tCons (tLc (iList K (tSl (rSlL K) (tVar 0) (tPart (tC (.int 3))) (tPart (tC (.int 63))))) (gName 3) (tYes) (tOp (rRest) (tVar 3) (tC (.int 256))) [3]) (tNil))) (gName 2))
  (tSeq (tFor (iList K (tSl (rSlL K) (tVar 0) (tPart (tC (.int 3))) (tPart (tC (.int 63))))) (gName 3) (tSeq (tAsg (tFun (sp_Lstep K) [] (fun _ => E) (tCons (tVar 3) (tNil))) (gTup K 2 (gCons (gName 4) (gCons (gName 5) (gNil)))))
  (tSeq (tDrop (tMth "narrow" (one (He.ga K "Span") (sp_Span_narrow K)) (fun _ => E) (tVar 1) (tCons (tVar 4) (tCons (tVar 5) (tNil)))))
  (tDrop (tMth "bit" (one (He.ga K "Seeker") (sp_Seeker_bit K)) (fun _ => E) (tVar 2) (tCons (tVar 4) (tNil)))))))
  (tSeq (tAsg (tLst (tCons (tC (.int 32767)) (tCons (tC (.int 16744449)) (tCons (tC (.int 0)) (tCons (tC (.int 1)) (tCons (tUn rNeg (tC (.int 1))) (tCons (tUn rNeg (tC (.int 32768))) (tCons (tC (.int 16777216)) (tCons (tOp (rPow) (tC (.int 10)) (tC (.int 60))) (tCons (tC (.bl true)) (tCons (tC .non) (tCons (tC (.str "8388608")) (tCons (tLst (tCons (tC (.int 8388608)) (tNil))) (tCons (tTup (tCons (tC (.int 32768)) (tNil))) (tCons (tDNewK) (tNil)))))))))))))))) (gName 6))
  (tSeq (tAsg (tOp (rIx K) (tVar 6) (tOp (rRest) (tFun (sp_Lcell_at K) [] (fun _ => E) (tCons (tVar 0) (tCons (tC (.int 0)) (tNil)))) (tC (.int 14)))) (gName 7))
  (tSeq (tAsg (tOp (rIx K) (tLst (tCons (tC (.int 2)) (tCons (tUn rNeg (tC (.int 1))) (tCons (tC (.bl true)) (tCons (tC (.bl false)) (tCons (tC .non) (tCons (tC (.str "0")) (tCons (tLst (tCons (tC (.int 0)) (tNil))) (tCons (tTup (tCons (tC (.int 1)) (tNil))) (tCons (tOp (rPow) (tC (.int 10)) (tC (.int 60))) (tCons (tDNewK) (tNil)))))))))))) (tOp (rRest) (tFun (sp_Lcell_at K) [] (fun _ => E) (tCons (tVar 0) (tCons (tC (.int 1)) (tNil)))) (tC (.int 10)))) (gName 8))
  (tSeq (tAsg (tOp (rIx K) (tLst (tCons (tC .non) (tCons (tC (.int 7)) (tCons (tC (.str "ab")) (tCons (tTup (tCons (tC (.int 1)) (tCons (tC (.int 2)) (tNil)))) (tCons (tLst (tCons (tC (.int 256)) (tNil))) (tCons (tLst (tCons (tC (.int 0)) (tCons (tUn rNeg (tC (.int 1))) (tNil)))) (tCons (tLst (tCons (tC (.bl true)) (tNil))) (tCons (tOp (rTimes) (tLst (tCons (tC (.int 0)) (tNil))) (tC (.int 12001))) (tCons (tLst (tCons (tLst (tCons (tC (.int 0)) (tNil))) (tNil))) (tNil))))))))))) (tOp (rRest) (tFun (sp_Lcell_at K) [] (fun _ => E) (tCons (tVar 0) (tCons (tC (.int 2)) (tNil)))) (tC (.int 9)))) (gName 9))
  (tSeq (tAsg (tFun (sp_Lstep K) [] (fun _ => E) (tCons (tFun (sp_Lcell_at K) [] (fun _ => E) (tCons (tVar 0) (tCons (tC (.int 0)) (tNil)))) (tNil))) (gTup K 2 (gCons (gName 4) (gCons (gName 5) (gNil)))))
  (tSeq (tAsg (tLst (tCons (tMth "ends" (one (He.ga K "Span") (sp_Span_ends K)) (fun _ => E) (tVar 1) (tNil)) (tCons (tMth "told" (one (He.ga K "Span") (sp_Span_told K)) (fun _ => E) (tVar 1) (tNil)) (tCons (tMth "settled" (one (He.ga K "Span") (sp_Span_settled K)) (fun _ => E) (tVar 1) (tNil)) (tCons (tMth "ends" (one (He.ga K "Seeker") (sp_Seeker_ends K)) (fun _ => E) (tVar 2) (tNil)) (tNil)))))) (gName 10))
  (tSeq (tIfS (tTest (tOp (rDiff K) (tFun (sp_Lkinds K) [] (fun _ => E) (tCons (tC (.int 0)) (tCons (tVar 1) (tCons (tVar 7) (tCons (tVar 5) (tNil)))))) (tLst (tCons (tC (.bl true)) (tCons (tC (.bl false)) (tCons (tC (.bl false)) (tCons (tC (.bl true)) (tCons (tC (.bl false)) (tNil))))))))) (tRet (tC (.bl false))) (tNext))
  (tSeq (tIfS (tTest (tOp (rDiff K) (tFun (sp_Lkinds K) [] (fun _ => E) (tCons (tC (.int 0)) (tCons (tVar 1) (tCons (tVar 7) (tCons (tVar 8) (tNil)))))) (tLst (tCons (tC (.bl true)) (tCons (tC (.bl false)) (tCons (tC (.bl false)) (tCons (tC (.bl true)) (tCons (tC (.bl false)) (tNil))))))))) (tRet (tC (.bl false))) (tNext))
  (tSeq (tIfS (tTest (tOp (rDiff K) (tFun (sp_Lkinds K) [] (fun _ => E) (tCons (tC (.int 0)) (tCons (tVar 1) (tCons (tVar 4) (tCons (tVar 8) (tNil)))))) (tLst (tCons (tC (.bl false)) (tCons (tC (.bl true)) (tCons (tC (.bl false)) (tCons (tC (.bl true)) (tCons (tC (.bl false)) (tNil))))))))) (tRet (tC (.bl false))) (tNext))
  (tSeq (tIfS (tTest (tOp (rDiff K) (tFun (sp_Lkinds K) [] (fun _ => E) (tCons (tC (.int 1)) (tCons (tVar 2) (tCons (tVar 7) (tCons (tVar 5) (tNil)))))) (tLst (tCons (tC (.bl true)) (tCons (tC (.bl false)) (tCons (tC (.bl false)) (tCons (tC (.bl true)) (tCons (tC (.bl false)) (tNil))))))))) (tRet (tC (.bl false))) (tNext))
  (tSeq (tIfS (tTest (tOp (rDiff K) (tFun (sp_Lkinds K) [] (fun _ => E) (tCons (tC (.int 2)) (tCons (tVar 9) (tCons (tVar 4) (tCons (tVar 5) (tNil)))))) (tLst (tCons (tC (.bl false)) (tCons (tC (.bl false)) (tCons (tC (.bl true)) (tCons (tC (.bl true)) (tCons (tC (.bl false)) (tNil))))))))) (tRet (tC (.bl false))) (tNext))
  (tSeq (tIfS (tTest (tOp (rDiff K) (tVar 10) (tLst (tCons (tMth "ends" (one (He.ga K "Span") (sp_Span_ends K)) (fun _ => E) (tVar 1) (tNil)) (tCons (tMth "told" (one (He.ga K "Span") (sp_Span_told K)) (fun _ => E) (tVar 1) (tNil)) (tCons (tMth "settled" (one (He.ga K "Span") (sp_Span_settled K)) (fun _ => E) (tVar 1) (tNil)) (tCons (tMth "ends" (one (He.ga K "Seeker") (sp_Seeker_ends K)) (fun _ => E) (tVar 2) (tNil)) (tNil)))))))) (tRet (tC (.bl false))) (tNext))
  (tSeq (tAsg (tNew (He.ga K "Seeker") (sp_Seeker_init K) [] (fun _ => E) (tCons (tLc (iList K (tSl (rSlL K) (tVar 0) (tPart (tC (.int 3))) (tPart (tC (.int 63))))) (gName 3) (tYes) (tOp (rRest) (tVar 3) (tC (.int 256))) [3]) (tNil))) (gName 8))
  (tSeq (tFor (iList K (tSl (rSlL K) (tVar 0) (tPart (tC (.int 3))) (tPart (tC (.int 63))))) (gName 3) (tDrop (tMth "bit" (one (He.ga K "Seeker") (sp_Seeker_bit K)) (fun _ => E) (tVar 8) (tCons (tOp (rIx K) (tFun (sp_Lstep K) [] (fun _ => E) (tCons (tVar 3) (tNil))) (tC (.int 0))) (tNil)))))
  (tSeq (tFor (iRng1 (tCons (tC (.int 40)) (tNil))) (gName 11) (tIfS (tOr (tTest (tOp (rDiff K) (tMth "bit" (one (He.ga K "Seeker") (sp_Seeker_bit K)) (fun _ => E) (tVar 2) (tCons (tVar 4) (tNil))) (tMth "bit" (one (He.ga K "Seeker") (sp_Seeker_bit K)) (fun _ => E) (tVar 8) (tCons (tVar 4) (tNil))))) (tTest (tOp (rDiff K) (tMth "ends" (one (He.ga K "Seeker") (sp_Seeker_ends K)) (fun _ => E) (tVar 2) (tNil)) (tMth "ends" (one (He.ga K "Seeker") (sp_Seeker_ends K)) (fun _ => E) (tVar 8) (tNil))))) (tRet (tC (.bl false))) (tNext)))
  (tRet (tAndV (tOp (rIsNo) (tMth "narrow" (one (He.ga K "Span") (sp_Span_narrow K)) (fun _ => E) (tVar 1) (tCons (tVar 4) (tCons (tVar 5) (tNil)))) (tC .non)) (tOp (rDiff K) (tMth "ends" (one (He.ga K "Span") (sp_Span_ends K)) (fun _ => E) (tVar 1) (tNil)) (tOp (rIx K) (tVar 10) (tC (.int 0)))))))))))))))))))))))
theorem pure_law {x : V} {H : Hp} {Q : VK} {E : XK} (h : F_law K x H Q E) : t_law K E ⟨fun _ H' => Q .non H', Q, fun _ _ => False, fun _ _ => False⟩ [some x, none, none, none, none, none, none, none, none, none, none, none] H := by
  obtain ⟨sc, ns, rfl, hs, hn, q⟩ := h
  unfold t_law
  walk_at "go"
  intro s0 ds0 ns0 nds0 nd0
  walk_at "go"
  refine ⟨s0, ds0, rfl, upd_same, rfl, ?_⟩
  rw [upd_upd]
  have n0 : upd H ds0 (.own s0) s0 = none := by rw [upd_ne nd0.symm]; exact ns0
  have S := same_new (u := .ins (He.ga K "Span") ds0 (spanF e0)) (same_new (u := .own s0) (Same.refl H) nds0) n0
  have es : (upd (upd H ds0 (.own s0)) s0 (.ins (He.ga K "Span") ds0 (spanF e0))) s0 = some (.ins (He.ga K "Span") ds0 (spanF e0)) := upd_same
  generalize upd (upd H ds0 (.own s0)) s0 (.ins (He.ga K "Span") ds0 (spanF e0)) = H1 at S es
  clear n0 nds0 nd0
  have hs1 := S.seq hs
  walk_at "go"
  intro c nc
  have cl : (cutL ns (some 3) (some 63)).length ≤ 63 := Nat.le_trans (cutL_len _ _ _) hn
  have ec : (upd H1 c (.lst (cutV (ns.map V.int) (some 3) (some 63)))) c = some (.lst ((cutL ns (some 3) (some 63)).map V.int)) := by rw [upd_same, cutV_map]
  have es := lk_new (u := (.lst (cutV (ns.map V.int) (some 3) (some 63)))) es nc
  have S := same_new (u := (.lst (cutV (ns.map V.int) (some 3) (some 63)))) S nc
  generalize upd H1 c (.lst (cutV (ns.map V.int) (some 3) (some 63))) = H2 at ec es S
  clear nc
  generalize hms : cutL ns (some 3) (some 63) = ms at cl ec
  refine lc_LI (sq_of ec) (fun z => .int (z % 256)) (by omega) (fun z hz D H2 Q2 s2 k => ?_) fun dl H3 nD s3 edl => ?_
  · walk_at "go"
    exact k _ (Same.refl _)
  have dB : Byts (ms.map fun z => z % 256) := fun z hz => by
    obtain ⟨i, _, rfl⟩ := List.mem_map.mp hz
    omega
  have dL : (ms.map fun z => z % 256).length ≤ 63 := by rw [List.length_map]; exact cl
  have edl : H3 dl = some (.lst ((ms.map fun z => z % 256).map V.int)) := by rw [edl, List.map_map]; rfl
  have hdl : ∀ v : V, (ms.map fun z => v) = ms.map fun z => v := fun _ => rfl
  generalize hds : (ms.map fun z => z % 256) = ds at dB dL edl
  have es := s3 _ _ es
  have ec := s3 _ _ ec
  have S := Same.trans S s3
  clear s3 nD hdl
  walk_at "go"
  intro a dx na ndx nad
  walk_at "go"
  have naH : H a = none := S.free na
  have nsa : s0 ≠ a := fun z => by rw [← z, es] at na; cases na
  refine seeker_new edl dB (by omega) na ndx nad fun r sp sdx H4 s4 nsp M => ?_
  have nss : s0 ≠ sp := fun z => by rw [← z, es] at nsp; cases nsp
  have nspH : H sp = none := S.free nsp
  have es := s4 _ _ es
  have ec := s4 _ _ ec
  have edl := s4 _ _ edl
  have S := Same.trans S s4
  clear s4 nsp na ndx nad
  have hs4 := S.seq hs
  walk_at "go"
  intro c2 nc2
  have ec2 : (upd H4 c2 (.lst (cutV (ns.map V.int) (some 3) (some 63)))) c2 = some (.lst (ms.map V.int)) := by rw [upd_same, cutV_map, hms]
  have es := lk_new (u := (.lst (cutV (ns.map V.int) (some 3) (some 63)))) es nc2
  have ec := lk_new (u := (.lst (cutV (ns.map V.int) (some 3) (some 63)))) ec nc2
  have edl := lk_new (u := (.lst (cutV (ns.map V.int) (some 3) (some 63)))) edl nc2
  have M := M.same (same_new (u := (.lst (cutV (ns.map V.int) (some 3) (some 63)))) (Same.refl _) nc2)
  have S := same_new (u := (.lst (cutV (ns.map V.int) (some 3) (some 63)))) S nc2
  generalize upd H4 c2 (.lst (cutV (ns.map V.int) (some 3) (some 63))) = H5 at ec2 es ec edl M S
  clear nc2 hs4 hs1
  have nl : ∀ {y : Addr} {xs : List V}, H5 y = some (.lst xs) → ¬ (y = s0 ∨ y = a ∨ y = sp) := fun hy => not_or.mpr ⟨ne_kind hy es (by intro z; cases z), not_or.mpr ⟨ne_kind hy M.ins (by intro z; cases z), ne_kind hy M.spn (by intro z; cases z)⟩⟩
  refine for_LI (sq_of ec2) (fun i σ H => ∃ e u3 u4 u5, σ = [some (.ref sc), some (.ref s0), some (.ref a), u3, u4, u5, none, none, none, none, none, none] ∧ SameX (fun b => b = s0 ∨ b = a ∨ b = sp) H5 H ∧ Both K H s0 ds0 a dx r sp sdx ds e (seekR ds e0 ((ms.map stepC).take i)) ∧ WSp i e) ?_ ?_ ?_ ?_
  · exact ⟨e0, _, _, _, rfl, SameX.refl _, ⟨es, M, nsa, nss⟩, e0w⟩
  · rintro i σ H6 ⟨e, u3, u4, u5, rfl, s, B, w⟩
    exact sq_of (s.kp _ _ (nl ec2) ec2)
  · rintro i z σ H6 hz ⟨e, u3, u4, u5, rfl, s, B, w⟩
    have hi := (List.getElem?_eq_some_iff.mp hz).1
    have hc : (ms.map stepC)[i]? = some (stepC z) := by rw [List.getElem?_map, hz]; rfl
    have wr := seekR_ok (d := ds) (e := e0) (cs := (ms.map stepC).take i) (fun c hc => chs ms c (List.mem_of_mem_take hc)) e0w
    have wl : ((ms.map stepC).take i).length ≤ 63 := by rw [List.length_take, List.length_map]; omega
    walk_at "go"
    refine ⟨z, rfl, fun t H7 nt s7 et => ?_⟩
    have cz := stepC_ok z
    have bz := stepB_ok z
    have s := s.trans (SameX.of s7)
    obtain ⟨es7, M7, -, -⟩ := B.same s7
    walk_at "go"
    refine narrow_of K es7 w (by omega) cz bz ?_
    have M8 : SeekAt K (upd H7 s0 (.ins (He.ga K "Span") ds0 (spanF (nar e (stepC z) (stepB z))))) a dx r sp sdx ds _ _ := ⟨lk_mut nsa.symm M7.ins, lk_mut (ne_kind M7.row es7 (by intro z; cases z)) M7.row, lk_mut nss.symm M7.spn, M7.nsp⟩
    have es8 : (upd H7 s0 (.ins (He.ga K "Span") ds0 (spanF (nar e (stepC z) (stepB z))))) s0 = some (.ins (He.ga K "Span") ds0 (spanF (nar e (stepC z) (stepB z)))) := upd_same
    have s := s.mut (o := .ins (He.ga K "Span") ds0 (spanF (nar e (stepC z) (stepB z)))) (.inl rfl)
    generalize upd H7 s0 (.ins (He.ga K "Span") ds0 (spanF (nar e (stepC z) (stepB z)))) = H8 at M8 es8 s
    walk_at "go"
    refine seek_one M8 rfl ?_
    walk_at "go"
    refine ⟨a, dx, r, sp, sdx, ds, _, _, rfl, M8, dB, by omega, wr, by omega, .int, (fun z => by rw [btw, decide_eq_true cz.1, decide_eq_true cz.2] at z; cases z), fun c' hc' _ _ H9 s9 M9 => ?_⟩
    cases hc'
    walk_at "go"
    exact ⟨_, _, _, _, rfl, s.trans (s9.mono fun b h => .inr h), ⟨s9.kp _ _ (not_or.mpr ⟨nsa, nss⟩) es8, by rw [seekR_take hc]; exact M9, nsa, nss⟩, nar_ok w cz.1 cz.2⟩
  rintro σ H6 ⟨e, u3, u4, u5, rfl, s, B, w⟩
  have full : (ms.map stepC).take ms.length = ms.map stepC := List.take_of_length_le (by rw [List.length_map]; exact Nat.le_refl _)
  rw [full] at B
  have wf := seekR_ok (d := ds) (e := e0) (cs := ms.map stepC) (chs ms) e0w
  have wl : (ms.map stepC).length ≤ 63 := by rw [List.length_map]; exact cl
  generalize hf : seekR ds e0 (ms.map stepC) = f at B wf
  have S : Same H H6 := s.back S fun b m => by
    rcases m with rfl | rfl | rfl
    · exact ns0
    · exact naH
    · exact nspH
  clear s nl full ec ec2 edl es M
  walk_at "go"
  intro p1 n1
  have f1 : (upd H6 p1 (.lst [.int 8388608])) p1 = some (.lst [.int 8388608]) := upd_same
  have B := B.same (same_new (u := .lst [.int 8388608]) (Same.refl _) n1)
  have S := same_new (u := .lst [.int 8388608]) S n1
  generalize upd H6 p1 (.lst [.int 8388608]) = H7 at f1 B S
  clear n1
  walk_at "go"
  intro p2 n2
  have f2 : (upd H7 p2 (.tup [.int 32768])) p2 = some (.tup [.int 32768]) := upd_same
  have f1 := lk_new (u := .tup [.int 32768]) f1 n2
  have B := B.same (same_new (u := .tup [.int 32768]) (Same.refl _) n2)
  have S := same_new (u := .tup [.int 32768]) S n2
  generalize upd H7 p2 (.tup [.int 32768]) = H8 at f2 f1 B S
  clear n2
  walk_at "go"
  refine g_dnewK fun p3 n3 => ?_
  have f3 : (upd H8 p3 (.dK [])) p3 = some (.dK []) := upd_same
  have f1 := lk_new (u := .dK []) f1 n3
  have f2 := lk_new (u := .dK []) f2 n3
  have B := B.same (same_new (u := .dK []) (Same.refl _) n3)
  have S := same_new (u := .dK []) S n3
  generalize upd H8 p3 (.dK []) = H9 at f3 f1 f2 B S
  clear n3
  walk_at "go"
  intro pS n4
  have f4 : (upd H9 pS (.lst [V.int 32767, V.int 16744449, V.int 0, V.int 1, V.int (-1), V.int (-32768), V.int 16777216, V.int (10 ^ 60), V.bl true, V.non, V.str "8388608", V.ref p1, V.ref p2, V.ref p3])) pS = some (.lst [V.int 32767, V.int 16744449, V.int 0, V.int 1, V.int (-1), V.int (-32768), V.int 16777216, V.int (10 ^ 60), V.bl true, V.non, V.str "8388608", V.ref p1, V.ref p2, V.ref p3]) := upd_same
  have f1 := lk_new (u := .lst [V.int 32767, V.int 16744449, V.int 0, V.int 1, V.int (-1), V.int (-32768), V.int 16777216, V.int (10 ^ 60), V.bl true, V.non, V.str "8388608", V.ref p1, V.ref p2, V.ref p3]) f1 n4
  have f2 := lk_new (u := .lst [V.int 32767, V.int 16744449, V.int 0, V.int 1, V.int (-1), V.int (-32768), V.int 16777216, V.int (10 ^ 60), V.bl true, V.non, V.str "8388608", V.ref p1, V.ref p2, V.ref p3]) f2 n4
  have f3 := lk_new (u := .lst [V.int 32767, V.int 16744449, V.int 0, V.int 1, V.int (-1), V.int (-32768), V.int 16777216, V.int (10 ^ 60), V.bl true, V.non, V.str "8388608", V.ref p1, V.ref p2, V.ref p3]) f3 n4
  have B := B.same (same_new (u := .lst [V.int 32767, V.int 16744449, V.int 0, V.int 1, V.int (-1), V.int (-32768), V.int 16777216, V.int (10 ^ 60), V.bl true, V.non, V.str "8388608", V.ref p1, V.ref p2, V.ref p3]) (Same.refl _) n4)
  have S := same_new (u := .lst [V.int 32767, V.int 16744449, V.int 0, V.int 1, V.int (-1), V.int (-32768), V.int 16777216, V.int (10 ^ 60), V.bl true, V.non, V.str "8388608", V.ref p1, V.ref p2, V.ref p3]) S n4
  generalize upd H9 pS (.lst [V.int 32767, V.int 16744449, V.int 0, V.int 1, V.int (-1), V.int (-32768), V.int 16777216, V.int (10 ^ 60), V.bl true, V.non, V.str "8388608", V.ref p1, V.ref p2, V.ref p3]) = H10 at f4 f1 f2 f3 B S
  clear n4
  walk_at "go"
  refine ⟨sc, ns, 0, rfl, rfl, S.seq hs, ?_⟩
  walk_at "go"
  obtain ⟨odd, eo, to, bo⟩ := fourteen (K := K) f1 f2 f3 (j := cell ns 0 % 14) (by omega)
  refine g_ixL (sq_of f4) eo ?_
  have to : Tw K H10 odd := ⟨to⟩
  clear f1 f2 f3 f4 eo
  walk_at "go"
  intro p1 n1
  have f1 : (upd H10 p1 (.lst [.int 0])) p1 = some (.lst [.int 0]) := upd_same
  have B := B.same (same_new (u := .lst [.int 0]) (Same.refl _) n1)
  have to := to.same (same_new (u := .lst [.int 0]) (Same.refl _) n1)
  have S := same_new (u := .lst [.int 0]) S n1
  generalize upd H10 p1 (.lst [.int 0]) = H11 at f1 B to S
  clear n1
  walk_at "go"
  intro p2 n2
  have f2 : (upd H11 p2 (.tup [.int 1])) p2 = some (.tup [.int 1]) := upd_same
  have f1 := lk_new (u := .tup [.int 1]) f1 n2
  have B := B.same (same_new (u := .tup [.int 1]) (Same.refl _) n2)
  have to := to.same (same_new (u := .tup [.int 1]) (Same.refl _) n2)
  have S := same_new (u := .tup [.int 1]) S n2
  generalize upd H11 p2 (.tup [.int 1]) = H12 at f2 f1 B to S
  clear n2
  walk_at "go"
  refine g_dnewK fun p3 n3 => ?_
  have f3 : (upd H12 p3 (.dK [])) p3 = some (.dK []) := upd_same
  have f1 := lk_new (u := .dK []) f1 n3
  have f2 := lk_new (u := .dK []) f2 n3
  have B := B.same (same_new (u := .dK []) (Same.refl _) n3)
  have to := to.same (same_new (u := .dK []) (Same.refl _) n3)
  have S := same_new (u := .dK []) S n3
  generalize upd H12 p3 (.dK []) = H13 at f3 f1 f2 B to S
  clear n3
  walk_at "go"
  intro p4 n4
  have f4 : (upd H13 p4 (.lst [V.int 2, V.int (-1), V.bl true, V.bl false, V.non, V.str "0", V.ref p1, V.ref p2, V.int (10 ^ 60), V.ref p3])) p4 = some (.lst [V.int 2, V.int (-1), V.bl true, V.bl false, V.non, V.str "0", V.ref p1, V.ref p2, V.int (10 ^ 60), V.ref p3]) := upd_same
  have f1 := lk_new (u := .lst [V.int 2, V.int (-1), V.bl true, V.bl false, V.non, V.str "0", V.ref p1, V.ref p2, V.int (10 ^ 60), V.ref p3]) f1 n4
  have f2 := lk_new (u := .lst [V.int 2, V.int (-1), V.bl true, V.bl false, V.non, V.str "0", V.ref p1, V.ref p2, V.int (10 ^ 60), V.ref p3]) f2 n4
  have f3 := lk_new (u := .lst [V.int 2, V.int (-1), V.bl true, V.bl false, V.non, V.str "0", V.ref p1, V.ref p2, V.int (10 ^ 60), V.ref p3]) f3 n4
  have B := B.same (same_new (u := .lst [V.int 2, V.int (-1), V.bl true, V.bl false, V.non, V.str "0", V.ref p1, V.ref p2, V.int (10 ^ 60), V.ref p3]) (Same.refl _) n4)
  have to := to.same (same_new (u := .lst [V.int 2, V.int (-1), V.bl true, V.bl false, V.non, V.str "0", V.ref p1, V.ref p2, V.int (10 ^ 60), V.ref p3]) (Same.refl _) n4)
  have S := same_new (u := .lst [V.int 2, V.int (-1), V.bl true, V.bl false, V.non, V.str "0", V.ref p1, V.ref p2, V.int (10 ^ 60), V.ref p3]) S n4
  generalize upd H13 p4 (.lst [V.int 2, V.int (-1), V.bl true, V.bl false, V.non, V.str "0", V.ref p1, V.ref p2, V.int (10 ^ 60), V.ref p3]) = H14 at f4 f1 f2 f3 B to S
  clear n4
  walk_at "go"
  refine ⟨sc, ns, 1, rfl, rfl, S.seq hs, ?_⟩
  walk_at "go"
  obtain ⟨oth, eo, tt, bt⟩ := ten (K := K) f1 f2 f3 (j := cell ns 1 % 10) (by omega)
  refine g_ixL (sq_of f4) eo ?_
  have tt : Tw K H14 oth := ⟨tt⟩
  clear f1 f2 f3 f4 eo
  walk_at "go"
  intro p1 n1
  have f1 : (upd H14 p1 (.tup [.int 1, .int 2])) p1 = some (.tup [.int 1, .int 2]) := upd_same
  have B := B.same (same_new (u := .tup [.int 1, .int 2]) (Same.refl _) n1)
  have to := to.same (same_new (u := .tup [.int 1, .int 2]) (Same.refl _) n1)
  have tt := tt.same (same_new (u := .tup [.int 1, .int 2]) (Same.refl _) n1)
  have S := same_new (u := .tup [.int 1, .int 2]) S n1
  generalize upd H14 p1 (.tup [.int 1, .int 2]) = H15 at f1 B to tt S
  clear n1
  walk_at "go"
  intro p2 n2
  have f2 : (upd H15 p2 (.lst [.int 256])) p2 = some (.lst [.int 256]) := upd_same
  have f1 := lk_new (u := .lst [.int 256]) f1 n2
  have B := B.same (same_new (u := .lst [.int 256]) (Same.refl _) n2)
  have to := to.same (same_new (u := .lst [.int 256]) (Same.refl _) n2)
  have tt := tt.same (same_new (u := .lst [.int 256]) (Same.refl _) n2)
  have S := same_new (u := .lst [.int 256]) S n2
  generalize upd H15 p2 (.lst [.int 256]) = H16 at f2 f1 B to tt S
  clear n2
  walk_at "go"
  intro p3 n3
  have f3 : (upd H16 p3 (.lst [.int 0, .int (-1)])) p3 = some (.lst [.int 0, .int (-1)]) := upd_same
  have f1 := lk_new (u := .lst [.int 0, .int (-1)]) f1 n3
  have f2 := lk_new (u := .lst [.int 0, .int (-1)]) f2 n3
  have B := B.same (same_new (u := .lst [.int 0, .int (-1)]) (Same.refl _) n3)
  have to := to.same (same_new (u := .lst [.int 0, .int (-1)]) (Same.refl _) n3)
  have tt := tt.same (same_new (u := .lst [.int 0, .int (-1)]) (Same.refl _) n3)
  have S := same_new (u := .lst [.int 0, .int (-1)]) S n3
  generalize upd H16 p3 (.lst [.int 0, .int (-1)]) = H17 at f3 f1 f2 B to tt S
  clear n3
  walk_at "go"
  intro p4 n4
  have f4 : (upd H17 p4 (.lst [.bl true])) p4 = some (.lst [.bl true]) := upd_same
  have f1 := lk_new (u := .lst [.bl true]) f1 n4
  have f2 := lk_new (u := .lst [.bl true]) f2 n4
  have f3 := lk_new (u := .lst [.bl true]) f3 n4
  have B := B.same (same_new (u := .lst [.bl true]) (Same.refl _) n4)
  have to := to.same (same_new (u := .lst [.bl true]) (Same.refl _) n4)
  have tt := tt.same (same_new (u := .lst [.bl true]) (Same.refl _) n4)
  have S := same_new (u := .lst [.bl true]) S n4
  generalize upd H17 p4 (.lst [.bl true]) = H18 at f4 f1 f2 f3 B to tt S
  clear n4
  walk_at "go"
  intro p5 n5
  have f5 : (upd H18 p5 (.lst [.int 0])) p5 = some (.lst [.int 0]) := upd_same
  have f1 := lk_new (u := .lst [.int 0]) f1 n5
  have f2 := lk_new (u := .lst [.int 0]) f2 n5
  have f3 := lk_new (u := .lst [.int 0]) f3 n5
  have f4 := lk_new (u := .lst [.int 0]) f4 n5
  have B := B.same (same_new (u := .lst [.int 0]) (Same.refl _) n5)
  have to := to.same (same_new (u := .lst [.int 0]) (Same.refl _) n5)
  have tt := tt.same (same_new (u := .lst [.int 0]) (Same.refl _) n5)
  have S := same_new (u := .lst [.int 0]) S n5
  generalize upd H18 p5 (.lst [.int 0]) = H19 at f5 f1 f2 f3 f4 B to tt S
  clear n5
  walk_at "go"
  refine g_rep f5 (by decide) (by decide) (Nat.le_trans (m := 1000000) (by decide) (by decide)) fun p6 n6 => ?_
  rw [show (List.replicate (12001 : Int).toNat [V.int 0]).flatten = List.replicate 12001 (V.int 0) from List.flatten_replicate_singleton ..]
  have f6 : (upd H19 p6 (.lst (List.replicate 12001 (.int 0)))) p6 = some (.lst (List.replicate 12001 (.int 0))) := upd_same
  have f1 := lk_new (u := .lst (List.replicate 12001 (.int 0))) f1 n6
  have f2 := lk_new (u := .lst (List.replicate 12001 (.int 0))) f2 n6
  have f3 := lk_new (u := .lst (List.replicate 12001 (.int 0))) f3 n6
  have f4 := lk_new (u := .lst (List.replicate 12001 (.int 0))) f4 n6
  have B := B.same (same_new (u := .lst (List.replicate 12001 (.int 0))) (Same.refl _) n6)
  have to := to.same (same_new (u := .lst (List.replicate 12001 (.int 0))) (Same.refl _) n6)
  have tt := tt.same (same_new (u := .lst (List.replicate 12001 (.int 0))) (Same.refl _) n6)
  have S := same_new (u := .lst (List.replicate 12001 (.int 0))) S n6
  generalize upd H19 p6 (.lst (List.replicate 12001 (.int 0))) = H20 at f6 f1 f2 f3 f4 B to tt S
  clear n6
  walk_at "go"
  intro p7 n7
  have f7 : (upd H20 p7 (.lst [.int 0])) p7 = some (.lst [.int 0]) := upd_same
  have f1 := lk_new (u := .lst [.int 0]) f1 n7
  have f2 := lk_new (u := .lst [.int 0]) f2 n7
  have f3 := lk_new (u := .lst [.int 0]) f3 n7
  have f4 := lk_new (u := .lst [.int 0]) f4 n7
  have f6 := lk_new (u := .lst [.int 0]) f6 n7
  have B := B.same (same_new (u := .lst [.int 0]) (Same.refl _) n7)
  have to := to.same (same_new (u := .lst [.int 0]) (Same.refl _) n7)
  have tt := tt.same (same_new (u := .lst [.int 0]) (Same.refl _) n7)
  have S := same_new (u := .lst [.int 0]) S n7
  generalize upd H20 p7 (.lst [.int 0]) = H21 at f7 f1 f2 f3 f4 f6 B to tt S
  clear n7
  walk_at "go"
  intro p8 n8
  have f8 : (upd H21 p8 (.lst [.ref p7])) p8 = some (.lst [.ref p7]) := upd_same
  have f1 := lk_new (u := .lst [.ref p7]) f1 n8
  have f2 := lk_new (u := .lst [.ref p7]) f2 n8
  have f3 := lk_new (u := .lst [.ref p7]) f3 n8
  have f4 := lk_new (u := .lst [.ref p7]) f4 n8
  have f6 := lk_new (u := .lst [.ref p7]) f6 n8
  have f7 := lk_new (u := .lst [.ref p7]) f7 n8
  have B := B.same (same_new (u := .lst [.ref p7]) (Same.refl _) n8)
  have to := to.same (same_new (u := .lst [.ref p7]) (Same.refl _) n8)
  have tt := tt.same (same_new (u := .lst [.ref p7]) (Same.refl _) n8)
  have S := same_new (u := .lst [.ref p7]) S n8
  generalize upd H21 p8 (.lst [.ref p7]) = H22 at f8 f1 f2 f3 f4 f6 f7 B to tt S
  clear n8
  walk_at "go"
  intro p9 n9
  have f9 : (upd H22 p9 (.lst [V.non, V.int 7, V.str "ab", V.ref p1, V.ref p2, V.ref p3, V.ref p4, V.ref p6, V.ref p8])) p9 = some (.lst [V.non, V.int 7, V.str "ab", V.ref p1, V.ref p2, V.ref p3, V.ref p4, V.ref p6, V.ref p8]) := upd_same
  have f1 := lk_new (u := .lst [V.non, V.int 7, V.str "ab", V.ref p1, V.ref p2, V.ref p3, V.ref p4, V.ref p6, V.ref p8]) f1 n9
  have f2 := lk_new (u := .lst [V.non, V.int 7, V.str "ab", V.ref p1, V.ref p2, V.ref p3, V.ref p4, V.ref p6, V.ref p8]) f2 n9
  have f3 := lk_new (u := .lst [V.non, V.int 7, V.str "ab", V.ref p1, V.ref p2, V.ref p3, V.ref p4, V.ref p6, V.ref p8]) f3 n9
  have f4 := lk_new (u := .lst [V.non, V.int 7, V.str "ab", V.ref p1, V.ref p2, V.ref p3, V.ref p4, V.ref p6, V.ref p8]) f4 n9
  have f6 := lk_new (u := .lst [V.non, V.int 7, V.str "ab", V.ref p1, V.ref p2, V.ref p3, V.ref p4, V.ref p6, V.ref p8]) f6 n9
  have f7 := lk_new (u := .lst [V.non, V.int 7, V.str "ab", V.ref p1, V.ref p2, V.ref p3, V.ref p4, V.ref p6, V.ref p8]) f7 n9
  have f8 := lk_new (u := .lst [V.non, V.int 7, V.str "ab", V.ref p1, V.ref p2, V.ref p3, V.ref p4, V.ref p6, V.ref p8]) f8 n9
  have B := B.same (same_new (u := .lst [V.non, V.int 7, V.str "ab", V.ref p1, V.ref p2, V.ref p3, V.ref p4, V.ref p6, V.ref p8]) (Same.refl _) n9)
  have to := to.same (same_new (u := .lst [V.non, V.int 7, V.str "ab", V.ref p1, V.ref p2, V.ref p3, V.ref p4, V.ref p6, V.ref p8]) (Same.refl _) n9)
  have tt := tt.same (same_new (u := .lst [V.non, V.int 7, V.str "ab", V.ref p1, V.ref p2, V.ref p3, V.ref p4, V.ref p6, V.ref p8]) (Same.refl _) n9)
  have S := same_new (u := .lst [V.non, V.int 7, V.str "ab", V.ref p1, V.ref p2, V.ref p3, V.ref p4, V.ref p6, V.ref p8]) S n9
  generalize upd H22 p9 (.lst [V.non, V.int 7, V.str "ab", V.ref p1, V.ref p2, V.ref p3, V.ref p4, V.ref p6, V.ref p8]) = H23 at f9 f1 f2 f3 f4 f6 f7 f8 B to tt S
  clear n9
  walk_at "go"
  refine ⟨sc, ns, 2, rfl, rfl, S.seq hs, ?_⟩
  walk_at "go"
  obtain ⟨dat, eo, td⟩ := nine (K := K) ⟨f1, f2, f3, f4, f6, f7, f8⟩ (j := cell ns 2 % 9) (by omega)
  refine g_ixL (sq_of f9) eo ?_
  have td : Sg K H23 dat := ⟨td⟩
  clear f1 f2 f3 f4 f6 f7 f8 f9 eo
  walk_at "go"
  refine ⟨sc, ns, 0, rfl, rfl, S.seq hs, ?_⟩
  walk_at "go"
  refine ⟨_, rfl, fun t H24 nt s24 et => ?_⟩
  have cg := stepC_ok (cell ns 0)
  have bg := stepB_ok (cell ns 0)
  generalize stepC (cell ns 0) = ch at et cg
  generalize stepB (cell ns 0) = bi at et bg
  have B := B.same s24
  have to := to.same s24
  have tt := tt.same s24
  have td := td.same s24
  have S := Same.trans S s24
  walk_at "go"
  refine g_one B.es rfl ?_
  walk_at "go"
  refine ⟨s0, ds0, e, rfl, B.es, fun v1 nv1 => ?_⟩
  clear s24 nt et
  have ev1 : (upd H24 v1 (.tup (endV e))) v1 = some (.tup (endV e)) := upd_same
  have B := B.same (same_new (u := .tup (endV e)) (Same.refl _) nv1)
  have to := to.same (same_new (u := .tup (endV e)) (Same.refl _) nv1)
  have tt := tt.same (same_new (u := .tup (endV e)) (Same.refl _) nv1)
  have td := td.same (same_new (u := .tup (endV e)) (Same.refl _) nv1)
  have S := same_new (u := .tup (endV e)) S nv1
  generalize upd H24 v1 (.tup (endV e)) = H25 at ev1 B to tt td S
  clear nv1
  walk_at "go"
  refine g_one B.es rfl ?_
  walk_at "go"
  refine ⟨s0, ds0, e, _, rfl, B.es, w, by omega, fun l1 H26 nl1 s26 el1 => ?_⟩
  have ev1 := s26 _ _ ev1
  have B := B.same s26
  have to := to.same s26
  have tt := tt.same s26
  have td := td.same s26
  have S := Same.trans S s26
  clear s26 nl1
  walk_at "go"
  refine g_one B.es rfl ?_
  walk_at "go"
  refine ⟨s0, ds0, e, _, rfl, B.es, w, by omega, fun l2 H27 nl2 s27 el2 => ?_⟩
  have ev1 := s27 _ _ ev1
  have el1 := s27 _ _ el1
  have B := B.same s27
  have to := to.same s27
  have tt := tt.same s27
  have td := td.same s27
  have S := Same.trans S s27
  clear s27 nl2
  walk_at "go"
  refine seek_one B.M rfl ?_
  walk_at "go"
  refine ⟨a, dx, r, sp, sdx, ds, f, _, rfl, B.M, fun v2 nv2 => ?_⟩
  have ev2 : (upd H27 v2 (.tup (endV f))) v2 = some (.tup (endV f)) := upd_same
  have ev1 := lk_new (u := .tup (endV f)) ev1 nv2
  have el1 := lk_new (u := .tup (endV f)) el1 nv2
  have el2 := lk_new (u := .tup (endV f)) el2 nv2
  have B := B.same (same_new (u := .tup (endV f)) (Same.refl _) nv2)
  have to := to.same (same_new (u := .tup (endV f)) (Same.refl _) nv2)
  have tt := tt.same (same_new (u := .tup (endV f)) (Same.refl _) nv2)
  have td := td.same (same_new (u := .tup (endV f)) (Same.refl _) nv2)
  have S := same_new (u := .tup (endV f)) S nv2
  generalize upd H27 v2 (.tup (endV f)) = H28 at ev2 ev1 el1 el2 B to tt td S
  clear nv2
  walk_at "go"
  intro hl nh
  have eh : (upd H28 hl (.lst [.ref v1, .ref l1, .ref l2, .ref v2])) hl = some (.lst [.ref v1, .ref l1, .ref l2, .ref v2]) := upd_same
  have ev1 := lk_new (u := .lst [.ref v1, .ref l1, .ref l2, .ref v2]) ev1 nh
  have el1 := lk_new (u := .lst [.ref v1, .ref l1, .ref l2, .ref v2]) el1 nh
  have el2 := lk_new (u := .lst [.ref v1, .ref l1, .ref l2, .ref v2]) el2 nh
  have ev2 := lk_new (u := .lst [.ref v1, .ref l1, .ref l2, .ref v2]) ev2 nh
  have B := B.same (same_new (u := .lst [.ref v1, .ref l1, .ref l2, .ref v2]) (Same.refl _) nh)
  have to := to.same (same_new (u := .lst [.ref v1, .ref l1, .ref l2, .ref v2]) (Same.refl _) nh)
  have tt := tt.same (same_new (u := .lst [.ref v1, .ref l1, .ref l2, .ref v2]) (Same.refl _) nh)
  have td := td.same (same_new (u := .lst [.ref v1, .ref l1, .ref l2, .ref v2]) (Same.refl _) nh)
  have S := same_new (u := .lst [.ref v1, .ref l1, .ref l2, .ref v2]) S nh
  generalize upd H28 hl (.lst [.ref v1, .ref l1, .ref l2, .ref v2]) = H29 at eh ev1 el1 el2 ev2 B to tt td S
  clear nh
  have D : Held H29 hl v1 l1 l2 v2 e f := ⟨eh, ev1, el1, el2, ev2⟩
  clear eh ev1 el1 el2 ev2
  have bch : btw 32768 16744448 (.int ch) = true := by rw [btw, decide_eq_true cg.1, decide_eq_true cg.2]; rfl
  walk_at "go"
  refine ⟨_, rfl, to.t, .int, .inl ⟨rfl, s0, ds0, e, _, rfl, B.es, w, by omega, (fun z => by rw [bo] at z; cases z), fun _ => fun l31 H30 nn s31 el => ?_, fun z => by rw [bo] at z; cases z⟩⟩
  have B := B.same s31
  have to := to.same s31
  have tt := tt.same s31
  have td := td.same s31
  have D := D.same s31
  have S := Same.trans S s31
  walk_at "go"
  intro g31 ng
  have eg : (upd H30 g31 (.lst [.bl true, .bl false, .bl false, .bl true, .bl false])) g31 = some (.lst [.bl true, .bl false, .bl false, .bl true, .bl false]) := upd_same
  have el := lk_new (u := .lst [.bl true, .bl false, .bl false, .bl true, .bl false]) el ng
  have B := B.same (same_new (u := .lst [.bl true, .bl false, .bl false, .bl true, .bl false]) (Same.refl _) ng)
  have to := to.same (same_new (u := .lst [.bl true, .bl false, .bl false, .bl true, .bl false]) (Same.refl _) ng)
  have tt := tt.same (same_new (u := .lst [.bl true, .bl false, .bl false, .bl true, .bl false]) (Same.refl _) ng)
  have td := td.same (same_new (u := .lst [.bl true, .bl false, .bl false, .bl true, .bl false]) (Same.refl _) ng)
  have D := D.same (same_new (u := .lst [.bl true, .bl false, .bl false, .bl true, .bl false]) (Same.refl _) ng)
  have S := same_new (u := .lst [.bl true, .bl false, .bl false, .bl true, .bl false]) S ng
  generalize upd H30 g31 (.lst [.bl true, .bl false, .bl false, .bl true, .bl false]) = H31 at eg el B to tt td D S
  clear ng
  walk_at "go"
  refine g_diffB (bs := [true, false, false, true, false]) (cs := [true, false, false, true, false]) (b := true) (sq_of el) (sq_of eg) (by decide) (by decide) (by decide) ?_
  clear eg el nn s31
  walk_at "go"
  refine ⟨_, rfl, to.t, tt.t, .inl ⟨rfl, s0, ds0, e, _, rfl, B.es, w, by omega, (fun z => by rw [bo] at z; cases z), fun _ => fun l32 H32 nn s32 el => ?_, fun z => by rw [bo] at z; cases z⟩⟩
  have B := B.same s32
  have to := to.same s32
  have tt := tt.same s32
  have td := td.same s32
  have D := D.same s32
  have S := Same.trans S s32
  walk_at "go"
  intro g32 ng
  have eg : (upd H32 g32 (.lst [.bl true, .bl false, .bl false, .bl true, .bl false])) g32 = some (.lst [.bl true, .bl false, .bl false, .bl true, .bl false]) := upd_same
  have el := lk_new (u := .lst [.bl true, .bl false, .bl false, .bl true, .bl false]) el ng
  have B := B.same (same_new (u := .lst [.bl true, .bl false, .bl false, .bl true, .bl false]) (Same.refl _) ng)
  have to := to.same (same_new (u := .lst [.bl true, .bl false, .bl false, .bl true, .bl false]) (Same.refl _) ng)
  have tt := tt.same (same_new (u := .lst [.bl true, .bl false, .bl false, .bl true, .bl false]) (Same.refl _) ng)
  have td := td.same (same_new (u := .lst [.bl true, .bl false, .bl false, .bl true, .bl false]) (Same.refl _) ng)
  have D := D.same (same_new (u := .lst [.bl true, .bl false, .bl false, .bl true, .bl false]) (Same.refl _) ng)
  have S := same_new (u := .lst [.bl true, .bl false, .bl false, .bl true, .bl false]) S ng
  generalize upd H32 g32 (.lst [.bl true, .bl false, .bl false, .bl true, .bl false]) = H33 at eg el B to tt td D S
  clear ng
  walk_at "go"
  refine g_diffB (bs := [true, false, false, true, false]) (cs := [true, false, false, true, false]) (b := true) (sq_of el) (sq_of eg) (by decide) (by decide) (by decide) ?_
  clear eg el nn s32
  walk_at "go"
  refine ⟨_, rfl, .int, tt.t, .inl ⟨rfl, s0, ds0, e, _, rfl, B.es, w, by omega, (fun _ z => by rw [bt] at z; cases z), (fun z => by rw [bch] at z; cases z), fun _ => fun l33 H34 nn s33 el => ?_⟩⟩
  have B := B.same s33
  have to := to.same s33
  have tt := tt.same s33
  have td := td.same s33
  have D := D.same s33
  have S := Same.trans S s33
  walk_at "go"
  intro g33 ng
  have eg : (upd H34 g33 (.lst [.bl false, .bl true, .bl false, .bl true, .bl false])) g33 = some (.lst [.bl false, .bl true, .bl false, .bl true, .bl false]) := upd_same
  have el := lk_new (u := .lst [.bl false, .bl true, .bl false, .bl true, .bl false]) el ng
  have B := B.same (same_new (u := .lst [.bl false, .bl true, .bl false, .bl true, .bl false]) (Same.refl _) ng)
  have to := to.same (same_new (u := .lst [.bl false, .bl true, .bl false, .bl true, .bl false]) (Same.refl _) ng)
  have tt := tt.same (same_new (u := .lst [.bl false, .bl true, .bl false, .bl true, .bl false]) (Same.refl _) ng)
  have td := td.same (same_new (u := .lst [.bl false, .bl true, .bl false, .bl true, .bl false]) (Same.refl _) ng)
  have D := D.same (same_new (u := .lst [.bl false, .bl true, .bl false, .bl true, .bl false]) (Same.refl _) ng)
  have S := same_new (u := .lst [.bl false, .bl true, .bl false, .bl true, .bl false]) S ng
  generalize upd H34 g33 (.lst [.bl false, .bl true, .bl false, .bl true, .bl false]) = H35 at eg el B to tt td D S
  clear ng
  walk_at "go"
  refine g_diffB (bs := [false, true, false, true, false]) (cs := [false, true, false, true, false]) (b := true) (sq_of el) (sq_of eg) (by decide) (by decide) (by decide) ?_
  clear eg el nn s33
  walk_at "go"
  refine ⟨_, rfl, to.t, .int, .inr (.inl ⟨rfl, a, dx, r, sp, sdx, ds, f, _, rfl, B.M, dB, by omega, wf, by omega, bo, fun l34 H36 nn s34 el => ?_⟩)⟩
  have B := B.same s34
  have to := to.same s34
  have tt := tt.same s34
  have td := td.same s34
  have D := D.same s34
  have S := Same.trans S s34
  walk_at "go"
  intro g34 ng
  have eg : (upd H36 g34 (.lst [.bl true, .bl false, .bl false, .bl true, .bl false])) g34 = some (.lst [.bl true, .bl false, .bl false, .bl true, .bl false]) := upd_same
  have el := lk_new (u := .lst [.bl true, .bl false, .bl false, .bl true, .bl false]) el ng
  have B := B.same (same_new (u := .lst [.bl true, .bl false, .bl false, .bl true, .bl false]) (Same.refl _) ng)
  have to := to.same (same_new (u := .lst [.bl true, .bl false, .bl false, .bl true, .bl false]) (Same.refl _) ng)
  have tt := tt.same (same_new (u := .lst [.bl true, .bl false, .bl false, .bl true, .bl false]) (Same.refl _) ng)
  have td := td.same (same_new (u := .lst [.bl true, .bl false, .bl false, .bl true, .bl false]) (Same.refl _) ng)
  have D := D.same (same_new (u := .lst [.bl true, .bl false, .bl false, .bl true, .bl false]) (Same.refl _) ng)
  have S := same_new (u := .lst [.bl true, .bl false, .bl false, .bl true, .bl false]) S ng
  generalize upd H36 g34 (.lst [.bl true, .bl false, .bl false, .bl true, .bl false]) = H37 at eg el B to tt td D S
  clear ng
  walk_at "go"
  refine g_diffB (bs := [true, false, false, true, false]) (cs := [true, false, false, true, false]) (b := true) (sq_of el) (sq_of eg) (by decide) (by decide) (by decide) ?_
  clear eg el nn s34
  walk_at "go"
  refine ⟨_, rfl, .int, .int, .inr (.inr ⟨rfl, td.t, fun l35 H38 nn s35 el => ?_⟩)⟩
  have B := B.same s35
  have to := to.same s35
  have tt := tt.same s35
  have td := td.same s35
  have D := D.same s35
  have S := Same.trans S s35
  walk_at "go"
  intro g35 ng
  have eg : (upd H38 g35 (.lst [.bl false, .bl false, .bl true, .bl true, .bl false])) g35 = some (.lst [.bl false, .bl false, .bl true, .bl true, .bl false]) := upd_same
  have el := lk_new (u := .lst [.bl false, .bl false, .bl true, .bl true, .bl false]) el ng
  have B := B.same (same_new (u := .lst [.bl false, .bl false, .bl true, .bl true, .bl false]) (Same.refl _) ng)
  have to := to.same (same_new (u := .lst [.bl false, .bl false, .bl true, .bl true, .bl false]) (Same.refl _) ng)
  have tt := tt.same (same_new (u := .lst [.bl false, .bl false, .bl true, .bl true, .bl false]) (Same.refl _) ng)
  have td := td.same (same_new (u := .lst [.bl false, .bl false, .bl true, .bl true, .bl false]) (Same.refl _) ng)
  have D := D.same (same_new (u := .lst [.bl false, .bl false, .bl true, .bl true, .bl false]) (Same.refl _) ng)
  have S := same_new (u := .lst [.bl false, .bl false, .bl true, .bl true, .bl false]) S ng
  generalize upd H38 g35 (.lst [.bl false, .bl false, .bl true, .bl true, .bl false]) = H39 at eg el B to tt td D S
  clear ng
  walk_at "go"
  refine g_diffB (bs := [false, false, true, true, false]) (cs := [false, false, true, true, false]) (b := true) (sq_of el) (sq_of eg) (by decide) (by decide) (by decide) ?_
  clear eg el nn s35
  walk_at "go"
  refine g_one B.es rfl ?_
  walk_at "go"
  refine ⟨s0, ds0, e, rfl, B.es, fun w1 nw1 => ?_⟩
  have ev1 : (upd H39 w1 (.tup (endV e))) w1 = some (.tup (endV e)) := upd_same
  have B := B.same (same_new (u := .tup (endV e)) (Same.refl _) nw1)
  have D := D.same (same_new (u := .tup (endV e)) (Same.refl _) nw1)
  have S := same_new (u := .tup (endV e)) S nw1
  generalize upd H39 w1 (.tup (endV e)) = H40 at ev1 B D S
  clear nw1
  walk_at "go"
  refine g_one B.es rfl ?_
  walk_at "go"
  refine ⟨s0, ds0, e, _, rfl, B.es, w, by omega, fun m1 H41 nl1 s26 el1 => ?_⟩
  have ev1 := s26 _ _ ev1
  have B := B.same s26
  have D := D.same s26
  have S := Same.trans S s26
  clear s26 nl1
  walk_at "go"
  refine g_one B.es rfl ?_
  walk_at "go"
  refine ⟨s0, ds0, e, _, rfl, B.es, w, by omega, fun m2 H42 nl2 s27 el2 => ?_⟩
  have ev1 := s27 _ _ ev1
  have el1 := s27 _ _ el1
  have B := B.same s27
  have D := D.same s27
  have S := Same.trans S s27
  clear s27 nl2
  walk_at "go"
  refine seek_one B.M rfl ?_
  walk_at "go"
  refine ⟨a, dx, r, sp, sdx, ds, f, _, rfl, B.M, fun w2 nv2 => ?_⟩
  have ev2 : (upd H42 w2 (.tup (endV f))) w2 = some (.tup (endV f)) := upd_same
  have ev1 := lk_new (u := .tup (endV f)) ev1 nv2
  have el1 := lk_new (u := .tup (endV f)) el1 nv2
  have el2 := lk_new (u := .tup (endV f)) el2 nv2
  have B := B.same (same_new (u := .tup (endV f)) (Same.refl _) nv2)
  have D := D.same (same_new (u := .tup (endV f)) (Same.refl _) nv2)
  have S := same_new (u := .tup (endV f)) S nv2
  generalize upd H42 w2 (.tup (endV f)) = H43 at ev2 ev1 el1 el2 B D S
  clear nv2
  walk_at "go"
  intro hk nk
  have eh : (upd H43 hk (.lst [.ref w1, .ref m1, .ref m2, .ref w2])) hk = some (.lst [.ref w1, .ref m1, .ref m2, .ref w2]) := upd_same
  have ev1 := lk_new (u := .lst [.ref w1, .ref m1, .ref m2, .ref w2]) ev1 nk
  have el1 := lk_new (u := .lst [.ref w1, .ref m1, .ref m2, .ref w2]) el1 nk
  have el2 := lk_new (u := .lst [.ref w1, .ref m1, .ref m2, .ref w2]) el2 nk
  have ev2 := lk_new (u := .lst [.ref w1, .ref m1, .ref m2, .ref w2]) ev2 nk
  have B := B.same (same_new (u := .lst [.ref w1, .ref m1, .ref m2, .ref w2]) (Same.refl _) nk)
  have D := D.same (same_new (u := .lst [.ref w1, .ref m1, .ref m2, .ref w2]) (Same.refl _) nk)
  have S := same_new (u := .lst [.ref w1, .ref m1, .ref m2, .ref w2]) S nk
  generalize upd H43 hk (.lst [.ref w1, .ref m1, .ref m2, .ref w2]) = H44 at eh ev1 el1 el2 ev2 B D S
  clear nk
  walk_at "go"
  refine Held.diff D ⟨eh, ev1, el1, el2, ev2⟩ ?_
  clear eh ev1 el1 el2 ev2 to tt td
  have hs44 := S.seq hs
  walk_at "go"
  intro c nc
  have ec : (upd H44 c (.lst (cutV (ns.map V.int) (some 3) (some 63)))) c = some (.lst (ms.map V.int)) := by rw [upd_same, cutV_map, hms]
  have B := B.same (same_new (u := (.lst (cutV (ns.map V.int) (some 3) (some 63)))) (Same.refl _) nc)
  have D := D.same (same_new (u := (.lst (cutV (ns.map V.int) (some 3) (some 63)))) (Same.refl _) nc)
  have S := same_new (u := (.lst (cutV (ns.map V.int) (some 3) (some 63)))) S nc
  generalize upd H44 c (.lst (cutV (ns.map V.int) (some 3) (some 63))) = H45 at ec B D S
  clear nc hs44
  refine lc_LI (sq_of ec) (fun z => .int (z % 256)) (by omega) (fun z hz D H2 Q2 s2 k => ?_) fun dl H46 nD s3 edl => ?_
  · walk_at "go"
    exact k _ (Same.refl _)
  have edl : H46 dl = some (.lst (ds.map V.int)) := by rw [edl, ← hds, List.map_map]; rfl
  have B := B.same s3
  have D := D.same s3
  have S := Same.trans S s3
  clear s3 nD ec
  walk_at "go"
  intro a2 dx2 na2 ndx2 nad2
  have q1 : a2 ≠ s0 := fun z => by rw [z, B.es] at na2; cases na2
  have q2 : a2 ≠ a := fun z => by rw [z, B.M.ins] at na2; cases na2
  have q3 : a2 ≠ sp := fun z => by rw [z, B.M.spn] at na2; cases na2
  walk_at "go"
  have a2H : H a2 = none := S.free na2
  refine seeker_new edl dB (by omega) na2 ndx2 nad2 fun r2 sp2 sdx2 H47 s4 nsp M2 => ?_
  have q4 : sp2 ≠ s0 := fun z => by rw [z, B.es] at nsp; cases nsp
  have q5 : sp2 ≠ a := fun z => by rw [z, B.M.ins] at nsp; cases nsp
  have q6 : sp2 ≠ sp := fun z => by rw [z, B.M.spn] at nsp; cases nsp
  have sp2H : H sp2 = none := S.free nsp
  have B := B.same s4
  have D := D.same s4
  have S := Same.trans S s4
  clear s4 nsp na2 ndx2 nad2 edl
  have hs47 := S.seq hs
  walk_at "go"
  intro c nc
  have ec : (upd H47 c (.lst (cutV (ns.map V.int) (some 3) (some 63)))) c = some (.lst (ms.map V.int)) := by rw [upd_same, cutV_map, hms]
  have B := B.same (same_new (u := (.lst (cutV (ns.map V.int) (some 3) (some 63)))) (Same.refl _) nc)
  have D := D.same (same_new (u := (.lst (cutV (ns.map V.int) (some 3) (some 63)))) (Same.refl _) nc)
  have M2 := M2.same (same_new (u := (.lst (cutV (ns.map V.int) (some 3) (some 63)))) (Same.refl _) nc)
  have S := same_new (u := (.lst (cutV (ns.map V.int) (some 3) (some 63)))) S nc
  generalize upd H47 c (.lst (cutV (ns.map V.int) (some 3) (some 63))) = H48 at ec B D M2 S
  clear nc hs47
  refine for_LI (sq_of ec) (fun i σ H => ∃ u3, σ = [some (.ref sc), some (.ref s0), some (.ref a), u3, some (.int ch), some (.int bi), some (.ref pS), some odd, some (.ref a2), some dat, some (.ref hl), none] ∧ SameX (fun b => b = a2 ∨ b = sp2) H48 H ∧ SeekAt K H a2 dx2 r2 sp2 sdx2 ds (seekR ds e0 ((ms.map stepC).take i)) (seekR ds e0 ((ms.map stepC).take i)).2.2.toNat) ?_ ?_ ?_ ?_
  · exact ⟨_, rfl, SameX.refl _, M2⟩
  · rintro i σ H6 ⟨u3, rfl, s, -⟩
    exact sq_of (s.kp _ _ (not_or.mpr ⟨ne_kind ec M2.ins (by intro z; cases z), ne_kind ec M2.spn (by intro z; cases z)⟩) ec)
  · rintro i z σ H6 hz ⟨u3, rfl, s, M6⟩
    have hc : (ms.map stepC)[i]? = some (stepC z) := by rw [List.getElem?_map, hz]; rfl
    have wr := seekR_ok (d := ds) (e := e0) (cs := (ms.map stepC).take i) (fun c hc => chs ms c (List.mem_of_mem_take hc)) e0w
    have wl : ((ms.map stepC).take i).length ≤ 63 := by rw [List.length_take, List.length_map]; omega
    walk_at "go"
    refine seek_one M6 rfl ?_
    walk_at "go"
    refine ⟨z, rfl, fun t H7 nt s7 et => ?_⟩
    have cz := stepC_ok z
    have M7 := M6.same s7
    walk_at "go"
    refine ⟨a2, dx2, r2, sp2, sdx2, ds, _, _, rfl, M7, dB, by omega, wr, by omega, .int, (fun z => by rw [btw, decide_eq_true cz.1, decide_eq_true cz.2] at z; cases z), fun c' hc' _ _ H9 s9 M9 => ?_⟩
    cases hc'
    walk_at "go"
    exact ⟨_, rfl, (s.trans (SameX.of s7)).trans s9, by rw [seekR_take hc]; exact M9⟩
  rintro σ H49 ⟨u3, rfl, s, M49⟩
  have full : (ms.map stepC).take ms.length = ms.map stepC := List.take_of_length_le (by rw [List.length_map]; exact Nat.le_refl _)
  rw [full, hf] at M49
  have D := D.kept s fun b o hb m => by
    rcases m with rfl | rfl
    · rw [M2.ins] at hb; cases hb; exact ⟨_, _, _, rfl⟩
    · rw [M2.spn] at hb; cases hb; exact ⟨_, _, _, rfl⟩
  have es := s.kp _ _ (not_or.mpr ⟨q1.symm, q4.symm⟩) B.es
  have M1 : SeekAt K H49 a dx r sp sdx ds f f.2.2.toNat := ⟨s.kp _ _ (not_or.mpr ⟨q2.symm, q5.symm⟩) B.M.ins, s.kp _ _ (not_or.mpr ⟨ne_kind B.M.row M2.ins (by intro z; cases z), ne_kind B.M.row M2.spn (by intro z; cases z)⟩) B.M.row, s.kp _ _ (not_or.mpr ⟨q3.symm, q6.symm⟩) B.M.spn, B.M.nsp⟩
  clear s full M2 ec S B hs
  walk_at "go"
  refine for_R1 (k := 40) rfl (by decide) (fun i σ H => ∃ g u3 u11, σ = [some (.ref sc), some (.ref s0), some (.ref a), u3, some (.int ch), some (.int bi), some (.ref pS), some odd, some (.ref a2), some dat, some (.ref hl), u11] ∧ Held H hl v1 l1 l2 v2 e f ∧ H s0 = some (.ins (He.ga K "Span") ds0 (spanF e)) ∧
    SeekAt K H a dx r sp sdx ds g g.2.2.toNat ∧ SeekAt K H a2 dx2 r2 sp2 sdx2 ds g g.2.2.toNat ∧ WSp (0 + (ms.map stepC).length + i) g) ?_ ?_ ?_
  · exact ⟨f, _, _, rfl, D, es, M1, M49, wf⟩
  · clear D es M1 M49
    rintro i σ H hi ⟨g, u3, u11, rfl, D, es, M1, M2, wg⟩
    walk_at "go"
    refine seek_one M1 rfl ?_
    walk_at "go"
    refine ⟨a, dx, r, sp, sdx, ds, g, _, rfl, M1, dB, by omega, wg, by omega, .int, (fun z => by rw [bch] at z; cases z), fun c' hc' _ _ H9 s9 M9 => ?_⟩
    cases hc'
    have M2' : SeekAt K H9 a2 dx2 r2 sp2 sdx2 ds g g.2.2.toNat := ⟨s9.kp _ _ (not_or.mpr ⟨q2, q3⟩) M2.ins, s9.kp _ _ (not_or.mpr ⟨ne_kind M2.row M1.ins (by intro z; cases z), ne_kind M2.row M1.spn (by intro z; cases z)⟩) M2.row, s9.kp _ _ (not_or.mpr ⟨q5, q6⟩) M2.spn, M2.nsp⟩
    have D := D.kept s9 fun b o hb m => by
      rcases m with rfl | rfl
      · rw [M1.ins] at hb; cases hb; exact ⟨_, _, _, rfl⟩
      · rw [M1.spn] at hb; cases hb; exact ⟨_, _, _, rfl⟩
    have es := s9.kp _ _ (not_or.mpr ⟨nsa, nss⟩) es
    clear s9
    walk_at "go"
    refine seek_one M2' rfl ?_
    walk_at "go"
    refine ⟨a2, dx2, r2, sp2, sdx2, ds, g, _, rfl, M2', dB, by omega, wg, by omega, .int, (fun z => by rw [bch] at z; cases z), fun c' hc' _ _ H10 s9 M10 => ?_⟩
    cases hc'
    have M9 : SeekAt K H10 a dx r sp sdx ds (nar g ch (bitOf ds g ch)) (nar g ch (bitOf ds g ch)).2.2.toNat := ⟨s9.kp _ _ (not_or.mpr ⟨q2.symm, q5.symm⟩) M9.ins, s9.kp _ _ (not_or.mpr ⟨ne_kind M9.row M2'.ins (by intro z; cases z), ne_kind M9.row M2'.spn (by intro z; cases z)⟩) M9.row, s9.kp _ _ (not_or.mpr ⟨q3.symm, q6.symm⟩) M9.spn, M9.nsp⟩
    have D := D.kept s9 fun b o hb m => by
      rcases m with rfl | rfl
      · rw [M2'.ins] at hb; cases hb; exact ⟨_, _, _, rfl⟩
      · rw [M2'.spn] at hb; cases hb; exact ⟨_, _, _, rfl⟩
    have es := s9.kp _ _ (not_or.mpr ⟨q1.symm, q4.symm⟩) es
    clear s9 M1 M2 M2'
    walk_at "go"
    refine difNY rfl ?_
    walk_at "go"
    have wg2 := nar_ok (b := bitOf ds g ch) wg cg.1 cg.2
    generalize nar g ch (bitOf ds g ch) = g2 at M9 M10 wg2
    refine seek_one M9 rfl ?_
    walk_at "go"
    refine ⟨a, dx, r, sp, sdx, ds, g2, _, rfl, M9, fun v nv => ?_⟩
    have ev : (upd H10 v (.tup (endV g2))) v = some (.tup (endV g2)) := upd_same
    have es := lk_new (u := .tup (endV g2)) es nv
    have M9 := M9.same (same_new (u := .tup (endV g2)) (Same.refl _) nv)
    have M10 := M10.same (same_new (u := .tup (endV g2)) (Same.refl _) nv)
    have D := D.same (same_new (u := .tup (endV g2)) (Same.refl _) nv)
    generalize upd H10 v (.tup (endV g2)) = H11 at ev es M9 M10 D
    clear nv
    walk_at "go"
    refine seek_one M10 rfl ?_
    walk_at "go"
    refine ⟨a2, dx2, r2, sp2, sdx2, ds, g2, _, rfl, M10, fun v2 nv2 => ?_⟩
    have ev2 : (upd H11 v2 (.tup (endV g2))) v2 = some (.tup (endV g2)) := upd_same
    have es := lk_new (u := .tup (endV g2)) es nv2
    have ev := lk_new (u := .tup (endV g2)) ev nv2
    have M9 := M9.same (same_new (u := .tup (endV g2)) (Same.refl _) nv2)
    have M10 := M10.same (same_new (u := .tup (endV g2)) (Same.refl _) nv2)
    have D := D.same (same_new (u := .tup (endV g2)) (Same.refl _) nv2)
    generalize upd H11 v2 (.tup (endV g2)) = H12 at ev2 es ev M9 M10 D
    clear nv2
    walk_at "go"
    refine g_diffTI (ns := [g2.1, g2.2.1, g2.2.2]) (ms := [g2.1, g2.2.1, g2.2.2]) (stt_of ev) (stt_of ev2) ?_
    rw [decide_eq_true rfl]
    walk_at "go"
    exact ⟨g2, _, _, rfl, D, es, M9, M10, wg2⟩
  · clear D es M1 M49
    rintro σ H ⟨g, u3, u11, rfl, D, es, M1, M2, wg⟩
    walk_at "go"
    refine narrow_of K es w (by omega) cg bg ?_
    have eh := lk_mut (u := .ins (He.ga K "Span") ds0 (spanF (nar e ch bi))) (ne_kind D.h es (by intro z; cases z)) D.h
    have ev := lk_mut (u := .ins (He.ga K "Span") ds0 (spanF (nar e ch bi))) (ne_kind D.a es (by intro z; cases z)) D.a
    have es2 : (upd H s0 (.ins (He.ga K "Span") ds0 (spanF (nar e ch bi)))) s0 = some (.ins (He.ga K "Span") ds0 (spanF (nar e ch bi))) := upd_same
    generalize upd H s0 (.ins (He.ga K "Span") ds0 (spanF (nar e ch bi))) = H9 at eh ev es2
    walk_at "go"
    refine difY rfl ?_
    walk_at "go"
    refine ⟨s0, ds0, nar e ch bi, rfl, es2, fun v nv => ?_⟩
    have ew : (upd H9 v (.tup (endV (nar e ch bi)))) v = some (.tup (endV (nar e ch bi))) := upd_same
    have eh := lk_new (u := .tup (endV (nar e ch bi))) eh nv
    have ev := lk_new (u := .tup (endV (nar e ch bi))) ev nv
    generalize upd H9 v (.tup (endV (nar e ch bi))) = H10 at ew eh ev
    clear nv
    walk_at "go"
    refine g_diffTI (ns := [(nar e ch bi).1, (nar e ch bi).2.1, (nar e ch bi).2.2]) (ms := [e.1, e.2.1, e.2.2]) (stt_of ew) (stt_of ev) ?_
    have ne := nar_ne (b := bi) w cg.1 cg.2
    rw [decide_eq_false]
    · exact q _
    · intro z
      have z1 := (List.cons.inj z).1
      have z2 := (List.cons.inj (List.cons.inj z).2).1
      have z3 := (List.cons.inj (List.cons.inj (List.cons.inj z).2).2).1
      exact ne (Prod.ext z1 (Prod.ext z2 z3))
theorem law_here (K : PySem.W.Frag) (H : Hp) (a : Addr) (ns : List Int) (hl : ns.length ≤ 63) (hS : SqL K H a (ns.map V.int)) : sp_law K [.ref a] H (fun v _ => v = .bl true) fun _ _ _ => False :=
  ⟨.ref a, rfl, a, ns, rfl, hS, hl, fun _ => rfl⟩
end
end Fo
namespace Fo
open PySem PySem.Spec PyProof.Rows L2
abbrev W_ : PySem.W.OpenLaw := PySem.Challenge.rw_foretell_k04_span_refused
def top (i : Nat) : Stmt := PySem.Challenge.pw_foretell_k04_span_refused.main.body.getD i (.Pass ⟨0, 0, 0, 0⟩)
abbrev s_is_whole : Stmt := top 12
abbrev N_is_whole : List Str := ["thing"]
theorem sc_is_whole : FnScope N_is_whole ["thing"] (defScope s_is_whole) := ⟨rfl, rfl, rfl, by decide +kernel, rfl, by decide +kernel, by decide +kernel⟩
abbrev s_is_bit : Stmt := top 13
abbrev N_is_bit : List Str := ["thing"]
theorem sc_is_bit : FnScope N_is_bit ["thing"] (defScope s_is_bit) := ⟨rfl, rfl, rfl, by decide +kernel, rfl, by decide +kernel, by decide +kernel⟩
abbrev s_is_chance : Stmt := top 14
abbrev N_is_chance : List Str := ["thing"]
theorem sc_is_chance : FnScope N_is_chance ["thing"] (defScope s_is_chance) := ⟨rfl, rfl, rfl, by decide +kernel, rfl, by decide +kernel, by decide +kernel⟩
abbrev s_is_sign : Stmt := top 15
abbrev N_is_sign : List Str := ["thing"]
theorem sc_is_sign : FnScope N_is_sign ["thing"] (defScope s_is_sign) := ⟨rfl, rfl, rfl, by decide +kernel, rfl, by decide +kernel, by decide +kernel⟩
abbrev s_are_signs : Stmt := top 16
abbrev N_are_signs : List Str := ["thing", "most", "sign"]
theorem sc_are_signs : FnScope N_are_signs ["thing", "most"] (defScope s_are_signs) := ⟨rfl, rfl, rfl, by decide +kernel, rfl, by decide +kernel, by decide +kernel⟩
abbrev s_checked_bytes : Stmt := top 17
abbrev N_checked_bytes : List Str := ["thing"]
theorem sc_checked_bytes : FnScope N_checked_bytes ["thing"] (defScope s_checked_bytes) := ⟨rfl, rfl, rfl, by decide +kernel, rfl, by decide +kernel, by decide +kernel⟩
abbrev s_checked_bit : Stmt := top 18
abbrev N_checked_bit : List Str := ["thing"]
theorem sc_checked_bit : FnScope N_checked_bit ["thing"] (defScope s_checked_bit) := ⟨rfl, rfl, rfl, by decide +kernel, rfl, by decide +kernel, by decide +kernel⟩
abbrev s_checked_chance : Stmt := top 19
abbrev N_checked_chance : List Str := ["thing"]
theorem sc_checked_chance : FnScope N_checked_chance ["thing"] (defScope s_checked_chance) := ⟨rfl, rfl, rfl, by decide +kernel, rfl, by decide +kernel, by decide +kernel⟩
abbrev s_bytes_of_number : Stmt := top 23
abbrev N_bytes_of_number : List Str := ["number", "size", "told", "k"]
theorem sc_bytes_of_number : FnScope N_bytes_of_number ["number", "size"] (defScope s_bytes_of_number) := ⟨rfl, rfl, rfl, by decide +kernel, rfl, by decide +kernel, by decide +kernel⟩
abbrev s_Span_init : Stmt := inClass (top 24) 0
abbrev N_Span_init : List Str := ["self"]
theorem sc_Span_init : FnScope N_Span_init ["self"] (defScope s_Span_init) := ⟨rfl, rfl, rfl, by decide +kernel, rfl, by decide +kernel, by decide +kernel⟩
abbrev s_Span_ends : Stmt := inClass (top 24) 1
abbrev N_Span_ends : List Str := ["self"]
theorem sc_Span_ends : FnScope N_Span_ends ["self"] (defScope s_Span_ends) := ⟨rfl, rfl, rfl, by decide +kernel, rfl, by decide +kernel, by decide +kernel⟩
abbrev s_Span_narrow : Stmt := inClass (top 24) 2
abbrev N_Span_narrow : List Str := ["self", "chance", "bit", "c", "b", "cut"]
theorem sc_Span_narrow : FnScope N_Span_narrow ["self", "chance", "bit"] (defScope s_Span_narrow) := ⟨rfl, rfl, rfl, by decide +kernel, rfl, by decide +kernel, by decide +kernel⟩
abbrev s_Span_settled : Stmt := inClass (top 24) 3
abbrev N_Span_settled : List Str := ["self", "first", "last", "size"]
theorem sc_Span_settled : FnScope N_Span_settled ["self"] (defScope s_Span_settled) := ⟨rfl, rfl, rfl, by decide +kernel, rfl, by decide +kernel, by decide +kernel⟩
abbrev s_Span_told : Stmt := inClass (top 24) 4
abbrev N_Span_told : List Str := ["self", "behind", "block", "first"]
theorem sc_Span_told : FnScope N_Span_told ["self"] (defScope s_Span_told) := ⟨rfl, rfl, rfl, by decide +kernel, rfl, by decide +kernel, by decide +kernel⟩
abbrev s_Seeker_init : Stmt := inClass (top 26) 0
abbrev N_Seeker_init : List Str := ["self", "data"]
theorem sc_Seeker_init : FnScope N_Seeker_init ["self", "data"] (defScope s_Seeker_init) := ⟨rfl, rfl, rfl, by decide +kernel, rfl, by decide +kernel, by decide +kernel⟩
abbrev s_Seeker_take : Stmt := inClass (top 26) 1
abbrev N_Seeker_take : List Str := ["self", "size", "byte"]
theorem sc_Seeker_take : FnScope N_Seeker_take ["self"] (defScope s_Seeker_take) := ⟨rfl, rfl, rfl, by decide +kernel, rfl, by decide +kernel, by decide +kernel⟩
abbrev s_Seeker_bit : Stmt := inClass (top 26) 2
abbrev N_Seeker_bit : List Str := ["self", "chance", "c", "low", "width", "size", "found"]
theorem sc_Seeker_bit : FnScope N_Seeker_bit ["self", "chance"] (defScope s_Seeker_bit) := ⟨rfl, rfl, rfl, by decide +kernel, rfl, by decide +kernel, by decide +kernel⟩
abbrev s_Seeker_ends : Stmt := inClass (top 26) 3
abbrev N_Seeker_ends : List Str := ["self"]
theorem sc_Seeker_ends : FnScope N_Seeker_ends ["self"] (defScope s_Seeker_ends) := ⟨rfl, rfl, rfl, by decide +kernel, rfl, by decide +kernel, by decide +kernel⟩
abbrev s_Lcell_at : Stmt := top 28
abbrev N_Lcell_at : List Str := ["_law_script", "_law_k"]
theorem sc_Lcell_at : FnScope N_Lcell_at ["_law_script", "_law_k"] (defScope s_Lcell_at) := ⟨rfl, rfl, rfl, by decide +kernel, rfl, by decide +kernel, by decide +kernel⟩
abbrev s_Lstep : Stmt := top 29
abbrev N_Lstep : List Str := ["_law_cell", "_law_part", "_law_way"]
theorem sc_Lstep : FnScope N_Lstep ["_law_cell"] (defScope s_Lstep) := ⟨rfl, rfl, rfl, by decide +kernel, rfl, by decide +kernel, by decide +kernel⟩
abbrev s_Lkinds : Stmt := top 30
abbrev N_Lkinds : List Str := ["_law_way", "_law_thing", "_law_chance", "_law_bit", "_law_kinds_here", "e"]
theorem sc_Lkinds : FnScope N_Lkinds ["_law_way", "_law_thing", "_law_chance", "_law_bit"] (defScope s_Lkinds) := ⟨rfl, rfl, rfl, by decide +kernel, rfl, by decide +kernel, by decide +kernel⟩
abbrev s_law : Stmt := top 31
abbrev N_law : List Str := ["_law_script", "_law_span", "_law_seeker", "_law_cell", "_law_chance", "_law_bit", "_law_some", "_law_odd", "_law_other", "_law_data", "_law_held", "_law_k"]
theorem sc_law : FnScope N_law ["_law_script"] (defScope s_law) := ⟨rfl, rfl, rfl, by decide +kernel, rfl, by decide +kernel, by decide +kernel⟩
def fa : List He.Fa := [.cls "Span", .noat "Span" "low", .noat "Span" "width", .noat "Span" "size", .cls "Seeker", .noat "Seeker" "row", .noat "Seeker" "span", .noat "Seeker" "number", .noat "Seeker" "taken", .exm "NoBytes" "ForetellError" true, .exm "NoBit" "ForetellError" true, .exm "NoChance" "ForetellError" true, .free "isinstance", .free "int", .free "bool", .free "range", .int "WIDEST" 1099511627776, .free "len", .glo "is_whole", .int "LEAST" 32768, .int "ONE" 16777216, .glo "bytes_of_number", .meth "Span" "ends", .free "list", .free "all", .glo "is_sign", .glo "is_bit", .glo "NoBit", .exc "NoBit", .glo "is_chance", .glo "NoChance", .exc "NoChance", .glo "are_signs", .int "MOST_BYTES" 12000, .glo "NoBytes", .exc "NoBytes", .glo "checked_chance", .glo "checked_bit", .int "NARROWEST" 4294967296, .glo "checked_bytes", .glo "Span", .meth "Seeker" "take", .mkr "Span", .meth "Span" "narrow", .free "ValueError", .glo "ForetellError", .glo "Seeker", .glo "NoMost", .glo "NoPress", .glo "NoText", .meth "Seeker" "bit", .mkr "Seeker", .glo "_law_step", .glo "_law_cell_at", .glo "_law_kinds", .meth "Span" "told", .meth "Span" "settled", .meth "Seeker" "ends", .glo "law"]
def fn : List He.DefD := [⟨("is_whole", none), "is_whole", "is_whole", defArgs s_is_whole, defBody s_is_whole, defScope s_is_whole, [], []⟩,
  ⟨("is_bit", none), "is_bit", "is_bit", defArgs s_is_bit, defBody s_is_bit, defScope s_is_bit, [], []⟩,
  ⟨("is_chance", none), "is_chance", "is_chance", defArgs s_is_chance, defBody s_is_chance, defScope s_is_chance, [], []⟩,
  ⟨("is_sign", none), "is_sign", "is_sign", defArgs s_is_sign, defBody s_is_sign, defScope s_is_sign, [], []⟩,
  ⟨("are_signs", none), "are_signs", "are_signs", defArgs s_are_signs, defBody s_are_signs, defScope s_are_signs, [], []⟩,
  ⟨("checked_bytes", none), "checked_bytes", "checked_bytes", defArgs s_checked_bytes, defBody s_checked_bytes, defScope s_checked_bytes, [], []⟩,
  ⟨("checked_bit", none), "checked_bit", "checked_bit", defArgs s_checked_bit, defBody s_checked_bit, defScope s_checked_bit, [], []⟩,
  ⟨("checked_chance", none), "checked_chance", "checked_chance", defArgs s_checked_chance, defBody s_checked_chance, defScope s_checked_chance, [], []⟩,
  ⟨("bytes_of_number", none), "bytes_of_number", "bytes_of_number", defArgs s_bytes_of_number, defBody s_bytes_of_number, defScope s_bytes_of_number, [], []⟩,
  ⟨("Span", some "__init__"), "__init__", "Span.__init__", defArgs s_Span_init, defBody s_Span_init, defScope s_Span_init, [], []⟩,
  ⟨("Span", some "ends"), "ends", "Span.ends", defArgs s_Span_ends, defBody s_Span_ends, defScope s_Span_ends, [], []⟩,
  ⟨("Span", some "narrow"), "narrow", "Span.narrow", defArgs s_Span_narrow, defBody s_Span_narrow, defScope s_Span_narrow, [], []⟩,
  ⟨("Span", some "settled"), "settled", "Span.settled", defArgs s_Span_settled, defBody s_Span_settled, defScope s_Span_settled, [], []⟩,
  ⟨("Span", some "told"), "told", "Span.told", defArgs s_Span_told, defBody s_Span_told, defScope s_Span_told, [], []⟩,
  ⟨("Seeker", some "__init__"), "__init__", "Seeker.__init__", defArgs s_Seeker_init, defBody s_Seeker_init, defScope s_Seeker_init, [], []⟩,
  ⟨("Seeker", some "take"), "take", "Seeker.take", defArgs s_Seeker_take, defBody s_Seeker_take, defScope s_Seeker_take, [], []⟩,
  ⟨("Seeker", some "bit"), "bit", "Seeker.bit", defArgs s_Seeker_bit, defBody s_Seeker_bit, defScope s_Seeker_bit, [], []⟩,
  ⟨("Seeker", some "ends"), "ends", "Seeker.ends", defArgs s_Seeker_ends, defBody s_Seeker_ends, defScope s_Seeker_ends, [], []⟩,
  ⟨("_law_cell_at", none), "_law_cell_at", "_law_cell_at", defArgs s_Lcell_at, defBody s_Lcell_at, defScope s_Lcell_at, [], []⟩,
  ⟨("_law_step", none), "_law_step", "_law_step", defArgs s_Lstep, defBody s_Lstep, defScope s_Lstep, [], []⟩,
  ⟨("_law_kinds", none), "_law_kinds", "_law_kinds", defArgs s_Lkinds, defBody s_Lkinds, defScope s_Lkinds, [], []⟩,
  ⟨("law", none), "law", "law", defArgs s_law, defBody s_law, defScope s_law, [], []⟩]
def xf : List Xf := [.exc "NoBytes", .kitT "NoBytes" "ValueError" true, .kit "NoBytes" "NoChance" false, .kit "NoBytes" "NoBit" false, .kit "NoBytes" "NoBytes" true, .kit "NoBytes" "NoMost" false, .kit "NoBytes" "NoPress" false, .kit "NoBytes" "NoText" false, .exc "NoBit", .kitT "NoBit" "ValueError" true, .kit "NoBit" "NoChance" false, .kit "NoBit" "NoBit" true, .kit "NoBit" "NoBytes" false, .kit "NoBit" "NoMost" false, .kit "NoBit" "NoPress" false, .kit "NoBit" "NoText" false, .exc "NoChance", .kitT "NoChance" "ValueError" true, .kit "NoChance" "NoChance" true, .kit "NoChance" "NoBit" false, .kit "NoChance" "NoBytes" false, .kit "NoChance" "NoMost" false, .kit "NoChance" "NoPress" false, .kit "NoChance" "NoText" false]
section
variable {P : Program} {w : World} {K : PySem.W.Frag} {mg : Str → Option Value} {base h : Heap}
theorem cb_is_whole (KX : K.In h) (G : h.Ns mainGlobals mg) (c : SaysX fa fn xf K) : Cb P w K mg base 1 (He.fAd K ("is_whole", none)) ["thing"] [] (sp_is_whole K) :=
  cb_of (T := t_is_whole K) (c.def_ 0 rfl) sc_is_whole (fun vs H Q E h => by
    obtain ⟨_, rfl, _⟩ := h
    rfl) (fun _ _ _ _ _ _ us hl => match us, hl with | [_], _ => rfl)
   (fun cdv A outer s H E hr => by
    have nd := sc_is_whole.nd
    have ho := out_def (cxD_takes (P := P) (w := w) (K := K) (mg := mg) (base := base) (N := N_is_whole) (qual := "is_whole") (st := s_is_whole) (f := He.fAd K ("is_whole", none)) (cdv := cdv) (A := A) (outer := outer) (s := s) (H := H) (E := E))
    have tk := cxD_takes (P := P) (w := w) (K := K) (mg := mg) (base := base) (N := N_is_whole) (qual := "is_whole") (st := s_is_whole) (f := He.fAd K ("is_whole", none)) (cdv := cdv) (A := A) (outer := outer) (s := s) (H := H) (E := E)
    have pz := cxD_passes (P := P) (w := w) (K := K) (mg := mg) (base := base) (N := N_is_whole) (qual := "is_whole") (st := s_is_whole) (f := He.fAd K ("is_whole", none)) (cdv := cdv) (A := A) (outer := outer) (s := s) (H := H) (E := E)
    exact pss_one (ps_ret (pe_and (pe_callB c_isi (by rfl) (He.free_ok KX G (c.fact 12 rfl)) (by decide +kernel) (pa_cons (pv 0) (pa_cons (pe_gty (He.free_ok KX G (c.fact 13 rfl)) (by decide +kernel)) (pa_nil)))) (pe_one (pe_not (pe_callB c_isi (by rfl) (He.free_ok KX G (c.fact 12 rfl)) (by decide +kernel) (pa_cons (pv 0) (pa_cons (pe_gty (He.free_ok KX G (c.fact 14 rfl)) (by decide +kernel)) (pa_nil)))))))))
   (fun vs H Q E h => by
    obtain ⟨_, rfl, h⟩ := h
    haveI : HasCls K "Span" := ⟨He.cls_ok (c.fact 0 rfl)⟩
    haveI : HasNo K "Span" "low" := ⟨He.noat_ok (c.fact 1 rfl)⟩
    haveI : HasNo K "Span" "width" := ⟨He.noat_ok (c.fact 2 rfl)⟩
    haveI : HasNo K "Span" "size" := ⟨He.noat_ok (c.fact 3 rfl)⟩
    haveI : HasCls K "Seeker" := ⟨He.cls_ok (c.fact 4 rfl)⟩
    haveI : HasNo K "Seeker" "row" := ⟨He.noat_ok (c.fact 5 rfl)⟩
    haveI : HasNo K "Seeker" "span" := ⟨He.noat_ok (c.fact 6 rfl)⟩
    haveI : HasNo K "Seeker" "number" := ⟨He.noat_ok (c.fact 7 rfl)⟩
    haveI : HasNo K "Seeker" "taken" := ⟨He.noat_ok (c.fact 8 rfl)⟩
    haveI : HasExc K "NoBytes" := hexc_ok (c.ext 0 rfl)
    haveI : HasExm K "NoBytes" "ForetellError" true := hexm_ok (c.fact 9 rfl)
    haveI : HasKitT K "NoBytes" "ValueError" true := kitT_ok (c.ext 1 rfl)
    haveI : HasKit K "NoBytes" "NoChance" false := kit_ok (c.ext 2 rfl)
    haveI : HasKit K "NoBytes" "NoBit" false := kit_ok (c.ext 3 rfl)
    haveI : HasKit K "NoBytes" "NoBytes" true := kit_ok (c.ext 4 rfl)
    haveI : HasKit K "NoBytes" "NoMost" false := kit_ok (c.ext 5 rfl)
    haveI : HasKit K "NoBytes" "NoPress" false := kit_ok (c.ext 6 rfl)
    haveI : HasKit K "NoBytes" "NoText" false := kit_ok (c.ext 7 rfl)
    haveI : HasExc K "NoBit" := hexc_ok (c.ext 8 rfl)
    haveI : HasExm K "NoBit" "ForetellError" true := hexm_ok (c.fact 10 rfl)
    haveI : HasKitT K "NoBit" "ValueError" true := kitT_ok (c.ext 9 rfl)
    haveI : HasKit K "NoBit" "NoChance" false := kit_ok (c.ext 10 rfl)
    haveI : HasKit K "NoBit" "NoBit" true := kit_ok (c.ext 11 rfl)
    haveI : HasKit K "NoBit" "NoBytes" false := kit_ok (c.ext 12 rfl)
    haveI : HasKit K "NoBit" "NoMost" false := kit_ok (c.ext 13 rfl)
    haveI : HasKit K "NoBit" "NoPress" false := kit_ok (c.ext 14 rfl)
    haveI : HasKit K "NoBit" "NoText" false := kit_ok (c.ext 15 rfl)
    haveI : HasExc K "NoChance" := hexc_ok (c.ext 16 rfl)
    haveI : HasExm K "NoChance" "ForetellError" true := hexm_ok (c.fact 11 rfl)
    haveI : HasKitT K "NoChance" "ValueError" true := kitT_ok (c.ext 17 rfl)
    haveI : HasKit K "NoChance" "NoChance" true := kit_ok (c.ext 18 rfl)
    haveI : HasKit K "NoChance" "NoBit" false := kit_ok (c.ext 19 rfl)
    haveI : HasKit K "NoChance" "NoBytes" false := kit_ok (c.ext 20 rfl)
    haveI : HasKit K "NoChance" "NoMost" false := kit_ok (c.ext 21 rfl)
    haveI : HasKit K "NoChance" "NoPress" false := kit_ok (c.ext 22 rfl)
    haveI : HasKit K "NoChance" "NoText" false := kit_ok (c.ext 23 rfl)
    exact pure_is_whole K h)
theorem cb_bytes_of_number (KX : K.In h) (G : h.Ns mainGlobals mg) (c : SaysX fa fn xf K) : Cb P w K mg base 1 (He.fAd K ("bytes_of_number", none)) ["number", "size"] [] (sp_bytes_of_number K) :=
  cb_of (T := t_bytes_of_number K) (c.def_ 8 rfl) sc_bytes_of_number (fun vs H Q E h => by
    obtain ⟨_, _, rfl, _⟩ := h
    rfl) (fun _ _ _ _ _ _ us hl => match us, hl with | [_, _], _ => rfl)
   (fun cdv A outer s H E hr => by
    have nd := sc_bytes_of_number.nd
    have ho := out_def (cxD_takes (P := P) (w := w) (K := K) (mg := mg) (base := base) (N := N_bytes_of_number) (qual := "bytes_of_number") (st := s_bytes_of_number) (f := He.fAd K ("bytes_of_number", none)) (cdv := cdv) (A := A) (outer := outer) (s := s) (H := H) (E := E))
    have tk := cxD_takes (P := P) (w := w) (K := K) (mg := mg) (base := base) (N := N_bytes_of_number) (qual := "bytes_of_number") (st := s_bytes_of_number) (f := He.fAd K ("bytes_of_number", none)) (cdv := cdv) (A := A) (outer := outer) (s := s) (H := H) (E := E)
    have pz := cxD_passes (P := P) (w := w) (K := K) (mg := mg) (base := base) (N := N_bytes_of_number) (qual := "bytes_of_number") (st := s_bytes_of_number) (f := He.fAd K ("bytes_of_number", none)) (cdv := cdv) (A := A) (outer := outer) (s := s) (H := H) (E := E)
    exact pss_cons (ps_set (i := 2) nd rfl (by first | exact Or.inl rfl | exact Or.inr rfl) (pe_lst (pa_nil)))
       (pss_cons (ps_for pz rfl (pi_range1 (by rfl) (He.free_ok KX G (c.fact 15 rfl)) (pa_cons (pv 1) (pa_nil))) (pg_name (i := 3) nd rfl (by first | exact Or.inl rfl | exact Or.inr rfl)) (pss_cons (ps_expr (pe_bm PySem.F.plainAttrs_list PySem.F.slot_list_append PySem.F.type_list_append mt_append (pv 2) (pa_cons (pe_op o_mask (pv 0) (pe_int)) (pa_nil))))
       (pss_one (ps_set (i := 0) nd rfl (by first | exact Or.inl rfl | exact Or.inr rfl) (pe_op o_rsh (pv 0) (pe_int))))))
       (pss_cons (ps_expr (pe_bm0 PySem.F.plainAttrs_list PySem.F.slot_list_reverse PySem.F.type_list_reverse mt_reverse (pv 2)))
       (pss_one (ps_ret (pv 2))))))
   (fun vs H Q E h => by
    obtain ⟨_, _, rfl, h⟩ := h
    haveI : HasCls K "Span" := ⟨He.cls_ok (c.fact 0 rfl)⟩
    haveI : HasNo K "Span" "low" := ⟨He.noat_ok (c.fact 1 rfl)⟩
    haveI : HasNo K "Span" "width" := ⟨He.noat_ok (c.fact 2 rfl)⟩
    haveI : HasNo K "Span" "size" := ⟨He.noat_ok (c.fact 3 rfl)⟩
    haveI : HasCls K "Seeker" := ⟨He.cls_ok (c.fact 4 rfl)⟩
    haveI : HasNo K "Seeker" "row" := ⟨He.noat_ok (c.fact 5 rfl)⟩
    haveI : HasNo K "Seeker" "span" := ⟨He.noat_ok (c.fact 6 rfl)⟩
    haveI : HasNo K "Seeker" "number" := ⟨He.noat_ok (c.fact 7 rfl)⟩
    haveI : HasNo K "Seeker" "taken" := ⟨He.noat_ok (c.fact 8 rfl)⟩
    haveI : HasExc K "NoBytes" := hexc_ok (c.ext 0 rfl)
    haveI : HasExm K "NoBytes" "ForetellError" true := hexm_ok (c.fact 9 rfl)
    haveI : HasKitT K "NoBytes" "ValueError" true := kitT_ok (c.ext 1 rfl)
    haveI : HasKit K "NoBytes" "NoChance" false := kit_ok (c.ext 2 rfl)
    haveI : HasKit K "NoBytes" "NoBit" false := kit_ok (c.ext 3 rfl)
    haveI : HasKit K "NoBytes" "NoBytes" true := kit_ok (c.ext 4 rfl)
    haveI : HasKit K "NoBytes" "NoMost" false := kit_ok (c.ext 5 rfl)
    haveI : HasKit K "NoBytes" "NoPress" false := kit_ok (c.ext 6 rfl)
    haveI : HasKit K "NoBytes" "NoText" false := kit_ok (c.ext 7 rfl)
    haveI : HasExc K "NoBit" := hexc_ok (c.ext 8 rfl)
    haveI : HasExm K "NoBit" "ForetellError" true := hexm_ok (c.fact 10 rfl)
    haveI : HasKitT K "NoBit" "ValueError" true := kitT_ok (c.ext 9 rfl)
    haveI : HasKit K "NoBit" "NoChance" false := kit_ok (c.ext 10 rfl)
    haveI : HasKit K "NoBit" "NoBit" true := kit_ok (c.ext 11 rfl)
    haveI : HasKit K "NoBit" "NoBytes" false := kit_ok (c.ext 12 rfl)
    haveI : HasKit K "NoBit" "NoMost" false := kit_ok (c.ext 13 rfl)
    haveI : HasKit K "NoBit" "NoPress" false := kit_ok (c.ext 14 rfl)
    haveI : HasKit K "NoBit" "NoText" false := kit_ok (c.ext 15 rfl)
    haveI : HasExc K "NoChance" := hexc_ok (c.ext 16 rfl)
    haveI : HasExm K "NoChance" "ForetellError" true := hexm_ok (c.fact 11 rfl)
    haveI : HasKitT K "NoChance" "ValueError" true := kitT_ok (c.ext 17 rfl)
    haveI : HasKit K "NoChance" "NoChance" true := kit_ok (c.ext 18 rfl)
    haveI : HasKit K "NoChance" "NoBit" false := kit_ok (c.ext 19 rfl)
    haveI : HasKit K "NoChance" "NoBytes" false := kit_ok (c.ext 20 rfl)
    haveI : HasKit K "NoChance" "NoMost" false := kit_ok (c.ext 21 rfl)
    haveI : HasKit K "NoChance" "NoPress" false := kit_ok (c.ext 22 rfl)
    haveI : HasKit K "NoChance" "NoText" false := kit_ok (c.ext 23 rfl)
    exact pure_bytes_of_number K h)
theorem cb_Span_init (KX : K.In h) (G : h.Ns mainGlobals mg) (c : SaysX fa fn xf K) : Cb P w K mg base 1 (He.fAd K ("Span", some "__init__")) ["self"] [] (sp_Span_init K) :=
  cb_of (T := t_Span_init K) (c.def_ 9 rfl) sc_Span_init (fun vs H Q E h => by
    obtain ⟨_, rfl, _⟩ := h
    rfl) (fun _ _ _ _ _ _ us hl => match us, hl with | [_], _ => rfl)
   (fun cdv A outer s H E hr => by
    have nd := sc_Span_init.nd
    have ho := out_def (cxD_takes (P := P) (w := w) (K := K) (mg := mg) (base := base) (N := N_Span_init) (qual := "Span.__init__") (st := s_Span_init) (f := He.fAd K ("Span", some "__init__")) (cdv := cdv) (A := A) (outer := outer) (s := s) (H := H) (E := E))
    have tk := cxD_takes (P := P) (w := w) (K := K) (mg := mg) (base := base) (N := N_Span_init) (qual := "Span.__init__") (st := s_Span_init) (f := He.fAd K ("Span", some "__init__")) (cdv := cdv) (A := A) (outer := outer) (s := s) (H := H) (E := E)
    have pz := cxD_passes (P := P) (w := w) (K := K) (mg := mg) (base := base) (N := N_Span_init) (qual := "Span.__init__") (st := s_Span_init) (f := He.fAd K ("Span", some "__init__")) (cdv := cdv) (A := A) (outer := outer) (s := s) (H := H) (E := E)
    exact pss_cons (ps_fld (pv 0) (pe_int) rfl)
       (pss_cons (ps_fld (pv 0) (pe_gint (He.int_ok KX G (c.fact 16 rfl))) rfl)
       (pss_one (ps_fld (pv 0) (pe_int) rfl))))
   (fun vs H Q E h => by
    obtain ⟨_, rfl, h⟩ := h
    haveI : HasCls K "Span" := ⟨He.cls_ok (c.fact 0 rfl)⟩
    haveI : HasNo K "Span" "low" := ⟨He.noat_ok (c.fact 1 rfl)⟩
    haveI : HasNo K "Span" "width" := ⟨He.noat_ok (c.fact 2 rfl)⟩
    haveI : HasNo K "Span" "size" := ⟨He.noat_ok (c.fact 3 rfl)⟩
    haveI : HasCls K "Seeker" := ⟨He.cls_ok (c.fact 4 rfl)⟩
    haveI : HasNo K "Seeker" "row" := ⟨He.noat_ok (c.fact 5 rfl)⟩
    haveI : HasNo K "Seeker" "span" := ⟨He.noat_ok (c.fact 6 rfl)⟩
    haveI : HasNo K "Seeker" "number" := ⟨He.noat_ok (c.fact 7 rfl)⟩
    haveI : HasNo K "Seeker" "taken" := ⟨He.noat_ok (c.fact 8 rfl)⟩
    haveI : HasExc K "NoBytes" := hexc_ok (c.ext 0 rfl)
    haveI : HasExm K "NoBytes" "ForetellError" true := hexm_ok (c.fact 9 rfl)
    haveI : HasKitT K "NoBytes" "ValueError" true := kitT_ok (c.ext 1 rfl)
    haveI : HasKit K "NoBytes" "NoChance" false := kit_ok (c.ext 2 rfl)
    haveI : HasKit K "NoBytes" "NoBit" false := kit_ok (c.ext 3 rfl)
    haveI : HasKit K "NoBytes" "NoBytes" true := kit_ok (c.ext 4 rfl)
    haveI : HasKit K "NoBytes" "NoMost" false := kit_ok (c.ext 5 rfl)
    haveI : HasKit K "NoBytes" "NoPress" false := kit_ok (c.ext 6 rfl)
    haveI : HasKit K "NoBytes" "NoText" false := kit_ok (c.ext 7 rfl)
    haveI : HasExc K "NoBit" := hexc_ok (c.ext 8 rfl)
    haveI : HasExm K "NoBit" "ForetellError" true := hexm_ok (c.fact 10 rfl)
    haveI : HasKitT K "NoBit" "ValueError" true := kitT_ok (c.ext 9 rfl)
    haveI : HasKit K "NoBit" "NoChance" false := kit_ok (c.ext 10 rfl)
    haveI : HasKit K "NoBit" "NoBit" true := kit_ok (c.ext 11 rfl)
    haveI : HasKit K "NoBit" "NoBytes" false := kit_ok (c.ext 12 rfl)
    haveI : HasKit K "NoBit" "NoMost" false := kit_ok (c.ext 13 rfl)
    haveI : HasKit K "NoBit" "NoPress" false := kit_ok (c.ext 14 rfl)
    haveI : HasKit K "NoBit" "NoText" false := kit_ok (c.ext 15 rfl)
    haveI : HasExc K "NoChance" := hexc_ok (c.ext 16 rfl)
    haveI : HasExm K "NoChance" "ForetellError" true := hexm_ok (c.fact 11 rfl)
    haveI : HasKitT K "NoChance" "ValueError" true := kitT_ok (c.ext 17 rfl)
    haveI : HasKit K "NoChance" "NoChance" true := kit_ok (c.ext 18 rfl)
    haveI : HasKit K "NoChance" "NoBit" false := kit_ok (c.ext 19 rfl)
    haveI : HasKit K "NoChance" "NoBytes" false := kit_ok (c.ext 20 rfl)
    haveI : HasKit K "NoChance" "NoMost" false := kit_ok (c.ext 21 rfl)
    haveI : HasKit K "NoChance" "NoPress" false := kit_ok (c.ext 22 rfl)
    haveI : HasKit K "NoChance" "NoText" false := kit_ok (c.ext 23 rfl)
    exact pure_Span_init K h)
theorem cb_Span_ends (KX : K.In h) (G : h.Ns mainGlobals mg) (c : SaysX fa fn xf K) : Cb P w K mg base 1 (He.fAd K ("Span", some "ends")) ["self"] [] (sp_Span_ends K) :=
  cb_of (T := t_Span_ends K) (c.def_ 10 rfl) sc_Span_ends (fun vs H Q E h => by
    obtain ⟨_, rfl, _⟩ := h
    rfl) (fun _ _ _ _ _ _ us hl => match us, hl with | [_], _ => rfl)
   (fun cdv A outer s H E hr => by
    have nd := sc_Span_ends.nd
    have ho := out_def (cxD_takes (P := P) (w := w) (K := K) (mg := mg) (base := base) (N := N_Span_ends) (qual := "Span.ends") (st := s_Span_ends) (f := He.fAd K ("Span", some "ends")) (cdv := cdv) (A := A) (outer := outer) (s := s) (H := H) (E := E))
    have tk := cxD_takes (P := P) (w := w) (K := K) (mg := mg) (base := base) (N := N_Span_ends) (qual := "Span.ends") (st := s_Span_ends) (f := He.fAd K ("Span", some "ends")) (cdv := cdv) (A := A) (outer := outer) (s := s) (H := H) (E := E)
    have pz := cxD_passes (P := P) (w := w) (K := K) (mg := mg) (base := base) (N := N_Span_ends) (qual := "Span.ends") (st := s_Span_ends) (f := He.fAd K ("Span", some "ends")) (cdv := cdv) (A := A) (outer := outer) (s := s) (H := H) (E := E)
    exact pss_one (ps_ret (pe_tup (pa_cons (pe_fld (pv 0) rfl) (pa_cons (pe_fld (pv 0) rfl) (pa_cons (pe_fld (pv 0) rfl) (pa_nil)))))))
   (fun vs H Q E h => by
    obtain ⟨_, rfl, h⟩ := h
    haveI : HasCls K "Span" := ⟨He.cls_ok (c.fact 0 rfl)⟩
    haveI : HasNo K "Span" "low" := ⟨He.noat_ok (c.fact 1 rfl)⟩
    haveI : HasNo K "Span" "width" := ⟨He.noat_ok (c.fact 2 rfl)⟩
    haveI : HasNo K "Span" "size" := ⟨He.noat_ok (c.fact 3 rfl)⟩
    haveI : HasCls K "Seeker" := ⟨He.cls_ok (c.fact 4 rfl)⟩
    haveI : HasNo K "Seeker" "row" := ⟨He.noat_ok (c.fact 5 rfl)⟩
    haveI : HasNo K "Seeker" "span" := ⟨He.noat_ok (c.fact 6 rfl)⟩
    haveI : HasNo K "Seeker" "number" := ⟨He.noat_ok (c.fact 7 rfl)⟩
    haveI : HasNo K "Seeker" "taken" := ⟨He.noat_ok (c.fact 8 rfl)⟩
    haveI : HasExc K "NoBytes" := hexc_ok (c.ext 0 rfl)
    haveI : HasExm K "NoBytes" "ForetellError" true := hexm_ok (c.fact 9 rfl)
    haveI : HasKitT K "NoBytes" "ValueError" true := kitT_ok (c.ext 1 rfl)
    haveI : HasKit K "NoBytes" "NoChance" false := kit_ok (c.ext 2 rfl)
    haveI : HasKit K "NoBytes" "NoBit" false := kit_ok (c.ext 3 rfl)
    haveI : HasKit K "NoBytes" "NoBytes" true := kit_ok (c.ext 4 rfl)
    haveI : HasKit K "NoBytes" "NoMost" false := kit_ok (c.ext 5 rfl)
    haveI : HasKit K "NoBytes" "NoPress" false := kit_ok (c.ext 6 rfl)
    haveI : HasKit K "NoBytes" "NoText" false := kit_ok (c.ext 7 rfl)
    haveI : HasExc K "NoBit" := hexc_ok (c.ext 8 rfl)
    haveI : HasExm K "NoBit" "ForetellError" true := hexm_ok (c.fact 10 rfl)
    haveI : HasKitT K "NoBit" "ValueError" true := kitT_ok (c.ext 9 rfl)
    haveI : HasKit K "NoBit" "NoChance" false := kit_ok (c.ext 10 rfl)
    haveI : HasKit K "NoBit" "NoBit" true := kit_ok (c.ext 11 rfl)
    haveI : HasKit K "NoBit" "NoBytes" false := kit_ok (c.ext 12 rfl)
    haveI : HasKit K "NoBit" "NoMost" false := kit_ok (c.ext 13 rfl)
    haveI : HasKit K "NoBit" "NoPress" false := kit_ok (c.ext 14 rfl)
    haveI : HasKit K "NoBit" "NoText" false := kit_ok (c.ext 15 rfl)
    haveI : HasExc K "NoChance" := hexc_ok (c.ext 16 rfl)
    haveI : HasExm K "NoChance" "ForetellError" true := hexm_ok (c.fact 11 rfl)
    haveI : HasKitT K "NoChance" "ValueError" true := kitT_ok (c.ext 17 rfl)
    haveI : HasKit K "NoChance" "NoChance" true := kit_ok (c.ext 18 rfl)
    haveI : HasKit K "NoChance" "NoBit" false := kit_ok (c.ext 19 rfl)
    haveI : HasKit K "NoChance" "NoBytes" false := kit_ok (c.ext 20 rfl)
    haveI : HasKit K "NoChance" "NoMost" false := kit_ok (c.ext 21 rfl)
    haveI : HasKit K "NoChance" "NoPress" false := kit_ok (c.ext 22 rfl)
    haveI : HasKit K "NoChance" "NoText" false := kit_ok (c.ext 23 rfl)
    exact pure_Span_ends K h)
theorem cb_Lcell_at (KX : K.In h) (G : h.Ns mainGlobals mg) (c : SaysX fa fn xf K) : Cb P w K mg base 1 (He.fAd K ("_law_cell_at", none)) ["_law_script", "_law_k"] [] (sp_Lcell_at K) :=
  cb_of (T := t_Lcell_at K) (c.def_ 18 rfl) sc_Lcell_at (fun vs H Q E h => by
    obtain ⟨_, _, rfl, _⟩ := h
    rfl) (fun _ _ _ _ _ _ us hl => match us, hl with | [_, _], _ => rfl)
   (fun cdv A outer s H E hr => by
    have nd := sc_Lcell_at.nd
    have ho := out_def (cxD_takes (P := P) (w := w) (K := K) (mg := mg) (base := base) (N := N_Lcell_at) (qual := "_law_cell_at") (st := s_Lcell_at) (f := He.fAd K ("_law_cell_at", none)) (cdv := cdv) (A := A) (outer := outer) (s := s) (H := H) (E := E))
    have tk := cxD_takes (P := P) (w := w) (K := K) (mg := mg) (base := base) (N := N_Lcell_at) (qual := "_law_cell_at") (st := s_Lcell_at) (f := He.fAd K ("_law_cell_at", none)) (cdv := cdv) (A := A) (outer := outer) (s := s) (H := H) (E := E)
    have pz := cxD_passes (P := P) (w := w) (K := K) (mg := mg) (base := base) (N := N_Lcell_at) (qual := "_law_cell_at") (st := s_Lcell_at) (f := He.fAd K ("_law_cell_at", none)) (cdv := cdv) (A := A) (outer := outer) (s := s) (H := H) (E := E)
    exact pss_cons (ps_if (pt_cmpR o_lt (pv 1) (pe_callB c_len (by rfl) (He.free_ok KX G (c.fact 17 rfl)) (by decide +kernel) (pa_cons (pv 0) (pa_nil))) (nomark _)) (pss_one (ps_ret (pe_ix ix_seq (pv 0) (pv 1) (fun _ _ => rfl)))) (pss_nil))
       (pss_one (ps_ret (pe_int))))
   (fun vs H Q E h => by
    obtain ⟨_, _, rfl, h⟩ := h
    haveI : HasCls K "Span" := ⟨He.cls_ok (c.fact 0 rfl)⟩
    haveI : HasNo K "Span" "low" := ⟨He.noat_ok (c.fact 1 rfl)⟩
    haveI : HasNo K "Span" "width" := ⟨He.noat_ok (c.fact 2 rfl)⟩
    haveI : HasNo K "Span" "size" := ⟨He.noat_ok (c.fact 3 rfl)⟩
    haveI : HasCls K "Seeker" := ⟨He.cls_ok (c.fact 4 rfl)⟩
    haveI : HasNo K "Seeker" "row" := ⟨He.noat_ok (c.fact 5 rfl)⟩
    haveI : HasNo K "Seeker" "span" := ⟨He.noat_ok (c.fact 6 rfl)⟩
    haveI : HasNo K "Seeker" "number" := ⟨He.noat_ok (c.fact 7 rfl)⟩
    haveI : HasNo K "Seeker" "taken" := ⟨He.noat_ok (c.fact 8 rfl)⟩
    haveI : HasExc K "NoBytes" := hexc_ok (c.ext 0 rfl)
    haveI : HasExm K "NoBytes" "ForetellError" true := hexm_ok (c.fact 9 rfl)
    haveI : HasKitT K "NoBytes" "ValueError" true := kitT_ok (c.ext 1 rfl)
    haveI : HasKit K "NoBytes" "NoChance" false := kit_ok (c.ext 2 rfl)
    haveI : HasKit K "NoBytes" "NoBit" false := kit_ok (c.ext 3 rfl)
    haveI : HasKit K "NoBytes" "NoBytes" true := kit_ok (c.ext 4 rfl)
    haveI : HasKit K "NoBytes" "NoMost" false := kit_ok (c.ext 5 rfl)
    haveI : HasKit K "NoBytes" "NoPress" false := kit_ok (c.ext 6 rfl)
    haveI : HasKit K "NoBytes" "NoText" false := kit_ok (c.ext 7 rfl)
    haveI : HasExc K "NoBit" := hexc_ok (c.ext 8 rfl)
    haveI : HasExm K "NoBit" "ForetellError" true := hexm_ok (c.fact 10 rfl)
    haveI : HasKitT K "NoBit" "ValueError" true := kitT_ok (c.ext 9 rfl)
    haveI : HasKit K "NoBit" "NoChance" false := kit_ok (c.ext 10 rfl)
    haveI : HasKit K "NoBit" "NoBit" true := kit_ok (c.ext 11 rfl)
    haveI : HasKit K "NoBit" "NoBytes" false := kit_ok (c.ext 12 rfl)
    haveI : HasKit K "NoBit" "NoMost" false := kit_ok (c.ext 13 rfl)
    haveI : HasKit K "NoBit" "NoPress" false := kit_ok (c.ext 14 rfl)
    haveI : HasKit K "NoBit" "NoText" false := kit_ok (c.ext 15 rfl)
    haveI : HasExc K "NoChance" := hexc_ok (c.ext 16 rfl)
    haveI : HasExm K "NoChance" "ForetellError" true := hexm_ok (c.fact 11 rfl)
    haveI : HasKitT K "NoChance" "ValueError" true := kitT_ok (c.ext 17 rfl)
    haveI : HasKit K "NoChance" "NoChance" true := kit_ok (c.ext 18 rfl)
    haveI : HasKit K "NoChance" "NoBit" false := kit_ok (c.ext 19 rfl)
    haveI : HasKit K "NoChance" "NoBytes" false := kit_ok (c.ext 20 rfl)
    haveI : HasKit K "NoChance" "NoMost" false := kit_ok (c.ext 21 rfl)
    haveI : HasKit K "NoChance" "NoPress" false := kit_ok (c.ext 22 rfl)
    haveI : HasKit K "NoChance" "NoText" false := kit_ok (c.ext 23 rfl)
    exact pure_Lcell_at K h)
theorem cb_Lstep (KX : K.In h) (G : h.Ns mainGlobals mg) (c : SaysX fa fn xf K) : Cb P w K mg base 1 (He.fAd K ("_law_step", none)) ["_law_cell"] [] (sp_Lstep K) :=
  cb_of (T := t_Lstep K) (c.def_ 19 rfl) sc_Lstep (fun vs H Q E h => by
    obtain ⟨_, rfl, _⟩ := h
    rfl) (fun _ _ _ _ _ _ us hl => match us, hl with | [_], _ => rfl)
   (fun cdv A outer s H E hr => by
    have nd := sc_Lstep.nd
    have ho := out_def (cxD_takes (P := P) (w := w) (K := K) (mg := mg) (base := base) (N := N_Lstep) (qual := "_law_step") (st := s_Lstep) (f := He.fAd K ("_law_step", none)) (cdv := cdv) (A := A) (outer := outer) (s := s) (H := H) (E := E))
    have tk := cxD_takes (P := P) (w := w) (K := K) (mg := mg) (base := base) (N := N_Lstep) (qual := "_law_step") (st := s_Lstep) (f := He.fAd K ("_law_step", none)) (cdv := cdv) (A := A) (outer := outer) (s := s) (H := H) (E := E)
    have pz := cxD_passes (P := P) (w := w) (K := K) (mg := mg) (base := base) (N := N_Lstep) (qual := "_law_step") (st := s_Lstep) (f := He.fAd K ("_law_step", none)) (cdv := cdv) (A := A) (outer := outer) (s := s) (H := H) (E := E)
    exact pss_cons (ps_set (i := 0) nd rfl (by first | exact Or.inl rfl | exact Or.inr rfl) (pe_op o_rest (pv 0) (pe_op o_pow (pe_int) (pe_int))))
       (pss_cons (ps_set (i := 1) nd rfl (by first | exact Or.inl rfl | exact Or.inr rfl) (pe_op o_rest (pe_op o_times (pe_op o_plus (pe_op o_plus (pe_op o_times (pv 0) (pv 0)) (pe_op o_times (pe_int) (pv 0))) (pe_int)) (pe_int)) (pe_int)))
       (pss_cons (ps_set (i := 2) nd rfl (by first | exact Or.inl rfl | exact Or.inr rfl) (pe_op o_rest (pe_op o_floor (pv 0) (pe_int)) (pe_int)))
       (pss_cons (ps_if (pt_cmpR o_lt (pv 2) (pe_int) (nomark _)) (pss_one (ps_ret (pe_tup (pa_cons (pe_ix ix_seq (pe_lst (pa_cons (pe_int) (pa_cons (pe_int) (pa_cons (pe_int) (pa_nil))))) (pv 2) (fun _ _ => rfl)) (pa_cons (pe_op o_rest (pv 0) (pe_int)) (pa_nil)))))) (pss_nil))
       (pss_one (ps_ret (pe_tup (pa_cons (pe_op o_plus (pe_int) (pe_op o_rest (pv 1) (pe_int))) (pa_cons (pe_op o_rest (pv 0) (pe_int)) (pa_nil))))))))))
   (fun vs H Q E h => by
    obtain ⟨_, rfl, h⟩ := h
    haveI : HasCls K "Span" := ⟨He.cls_ok (c.fact 0 rfl)⟩
    haveI : HasNo K "Span" "low" := ⟨He.noat_ok (c.fact 1 rfl)⟩
    haveI : HasNo K "Span" "width" := ⟨He.noat_ok (c.fact 2 rfl)⟩
    haveI : HasNo K "Span" "size" := ⟨He.noat_ok (c.fact 3 rfl)⟩
    haveI : HasCls K "Seeker" := ⟨He.cls_ok (c.fact 4 rfl)⟩
    haveI : HasNo K "Seeker" "row" := ⟨He.noat_ok (c.fact 5 rfl)⟩
    haveI : HasNo K "Seeker" "span" := ⟨He.noat_ok (c.fact 6 rfl)⟩
    haveI : HasNo K "Seeker" "number" := ⟨He.noat_ok (c.fact 7 rfl)⟩
    haveI : HasNo K "Seeker" "taken" := ⟨He.noat_ok (c.fact 8 rfl)⟩
    haveI : HasExc K "NoBytes" := hexc_ok (c.ext 0 rfl)
    haveI : HasExm K "NoBytes" "ForetellError" true := hexm_ok (c.fact 9 rfl)
    haveI : HasKitT K "NoBytes" "ValueError" true := kitT_ok (c.ext 1 rfl)
    haveI : HasKit K "NoBytes" "NoChance" false := kit_ok (c.ext 2 rfl)
    haveI : HasKit K "NoBytes" "NoBit" false := kit_ok (c.ext 3 rfl)
    haveI : HasKit K "NoBytes" "NoBytes" true := kit_ok (c.ext 4 rfl)
    haveI : HasKit K "NoBytes" "NoMost" false := kit_ok (c.ext 5 rfl)
    haveI : HasKit K "NoBytes" "NoPress" false := kit_ok (c.ext 6 rfl)
    haveI : HasKit K "NoBytes" "NoText" false := kit_ok (c.ext 7 rfl)
    haveI : HasExc K "NoBit" := hexc_ok (c.ext 8 rfl)
    haveI : HasExm K "NoBit" "ForetellError" true := hexm_ok (c.fact 10 rfl)
    haveI : HasKitT K "NoBit" "ValueError" true := kitT_ok (c.ext 9 rfl)
    haveI : HasKit K "NoBit" "NoChance" false := kit_ok (c.ext 10 rfl)
    haveI : HasKit K "NoBit" "NoBit" true := kit_ok (c.ext 11 rfl)
    haveI : HasKit K "NoBit" "NoBytes" false := kit_ok (c.ext 12 rfl)
    haveI : HasKit K "NoBit" "NoMost" false := kit_ok (c.ext 13 rfl)
    haveI : HasKit K "NoBit" "NoPress" false := kit_ok (c.ext 14 rfl)
    haveI : HasKit K "NoBit" "NoText" false := kit_ok (c.ext 15 rfl)
    haveI : HasExc K "NoChance" := hexc_ok (c.ext 16 rfl)
    haveI : HasExm K "NoChance" "ForetellError" true := hexm_ok (c.fact 11 rfl)
    haveI : HasKitT K "NoChance" "ValueError" true := kitT_ok (c.ext 17 rfl)
    haveI : HasKit K "NoChance" "NoChance" true := kit_ok (c.ext 18 rfl)
    haveI : HasKit K "NoChance" "NoBit" false := kit_ok (c.ext 19 rfl)
    haveI : HasKit K "NoChance" "NoBytes" false := kit_ok (c.ext 20 rfl)
    haveI : HasKit K "NoChance" "NoMost" false := kit_ok (c.ext 21 rfl)
    haveI : HasKit K "NoChance" "NoPress" false := kit_ok (c.ext 22 rfl)
    haveI : HasKit K "NoChance" "NoText" false := kit_ok (c.ext 23 rfl)
    exact pure_Lstep K h)
theorem cb_is_bit (KX : K.In h) (G : h.Ns mainGlobals mg) (c : SaysX fa fn xf K) : Cb P w K mg base 2 (He.fAd K ("is_bit", none)) ["thing"] [] (sp_is_bit K) :=
  cb_of (T := t_is_bit K) (c.def_ 1 rfl) sc_is_bit (fun vs H Q E h => by
    obtain ⟨_, rfl, _⟩ := h
    rfl) (fun _ _ _ _ _ _ us hl => match us, hl with | [_], _ => rfl)
   (fun cdv A outer s H E hr => by
    have nd := sc_is_bit.nd
    have ho := out_def (cxD_takes (P := P) (w := w) (K := K) (mg := mg) (base := base) (N := N_is_bit) (qual := "is_bit") (st := s_is_bit) (f := He.fAd K ("is_bit", none)) (cdv := cdv) (A := A) (outer := outer) (s := s) (H := H) (E := E))
    have tk := cxD_takes (P := P) (w := w) (K := K) (mg := mg) (base := base) (N := N_is_bit) (qual := "is_bit") (st := s_is_bit) (f := He.fAd K ("is_bit", none)) (cdv := cdv) (A := A) (outer := outer) (s := s) (H := H) (E := E)
    have pz := cxD_passes (P := P) (w := w) (K := K) (mg := mg) (base := base) (N := N_is_bit) (qual := "is_bit") (st := s_is_bit) (f := He.fAd K ("is_bit", none)) (cdv := cdv) (A := A) (outer := outer) (s := s) (H := H) (E := E)
    exact pss_one (ps_ret (pe_and (pe_fun (cb_is_whole KX G c) (hr.mono (by decide)) (He.glo_ok KX G (c.fact 18 rfl)) ho (pa_cons (pv 0) (pa_nil))) (pe_one (pe_chain o_le o_le (pe_int) (pv 0) (pe_int))))))
   (fun vs H Q E h => by
    obtain ⟨_, rfl, h⟩ := h
    haveI : HasCls K "Span" := ⟨He.cls_ok (c.fact 0 rfl)⟩
    haveI : HasNo K "Span" "low" := ⟨He.noat_ok (c.fact 1 rfl)⟩
    haveI : HasNo K "Span" "width" := ⟨He.noat_ok (c.fact 2 rfl)⟩
    haveI : HasNo K "Span" "size" := ⟨He.noat_ok (c.fact 3 rfl)⟩
    haveI : HasCls K "Seeker" := ⟨He.cls_ok (c.fact 4 rfl)⟩
    haveI : HasNo K "Seeker" "row" := ⟨He.noat_ok (c.fact 5 rfl)⟩
    haveI : HasNo K "Seeker" "span" := ⟨He.noat_ok (c.fact 6 rfl)⟩
    haveI : HasNo K "Seeker" "number" := ⟨He.noat_ok (c.fact 7 rfl)⟩
    haveI : HasNo K "Seeker" "taken" := ⟨He.noat_ok (c.fact 8 rfl)⟩
    haveI : HasExc K "NoBytes" := hexc_ok (c.ext 0 rfl)
    haveI : HasExm K "NoBytes" "ForetellError" true := hexm_ok (c.fact 9 rfl)
    haveI : HasKitT K "NoBytes" "ValueError" true := kitT_ok (c.ext 1 rfl)
    haveI : HasKit K "NoBytes" "NoChance" false := kit_ok (c.ext 2 rfl)
    haveI : HasKit K "NoBytes" "NoBit" false := kit_ok (c.ext 3 rfl)
    haveI : HasKit K "NoBytes" "NoBytes" true := kit_ok (c.ext 4 rfl)
    haveI : HasKit K "NoBytes" "NoMost" false := kit_ok (c.ext 5 rfl)
    haveI : HasKit K "NoBytes" "NoPress" false := kit_ok (c.ext 6 rfl)
    haveI : HasKit K "NoBytes" "NoText" false := kit_ok (c.ext 7 rfl)
    haveI : HasExc K "NoBit" := hexc_ok (c.ext 8 rfl)
    haveI : HasExm K "NoBit" "ForetellError" true := hexm_ok (c.fact 10 rfl)
    haveI : HasKitT K "NoBit" "ValueError" true := kitT_ok (c.ext 9 rfl)
    haveI : HasKit K "NoBit" "NoChance" false := kit_ok (c.ext 10 rfl)
    haveI : HasKit K "NoBit" "NoBit" true := kit_ok (c.ext 11 rfl)
    haveI : HasKit K "NoBit" "NoBytes" false := kit_ok (c.ext 12 rfl)
    haveI : HasKit K "NoBit" "NoMost" false := kit_ok (c.ext 13 rfl)
    haveI : HasKit K "NoBit" "NoPress" false := kit_ok (c.ext 14 rfl)
    haveI : HasKit K "NoBit" "NoText" false := kit_ok (c.ext 15 rfl)
    haveI : HasExc K "NoChance" := hexc_ok (c.ext 16 rfl)
    haveI : HasExm K "NoChance" "ForetellError" true := hexm_ok (c.fact 11 rfl)
    haveI : HasKitT K "NoChance" "ValueError" true := kitT_ok (c.ext 17 rfl)
    haveI : HasKit K "NoChance" "NoChance" true := kit_ok (c.ext 18 rfl)
    haveI : HasKit K "NoChance" "NoBit" false := kit_ok (c.ext 19 rfl)
    haveI : HasKit K "NoChance" "NoBytes" false := kit_ok (c.ext 20 rfl)
    haveI : HasKit K "NoChance" "NoMost" false := kit_ok (c.ext 21 rfl)
    haveI : HasKit K "NoChance" "NoPress" false := kit_ok (c.ext 22 rfl)
    haveI : HasKit K "NoChance" "NoText" false := kit_ok (c.ext 23 rfl)
    exact pure_is_bit K h)
theorem cb_is_chance (KX : K.In h) (G : h.Ns mainGlobals mg) (c : SaysX fa fn xf K) : Cb P w K mg base 2 (He.fAd K ("is_chance", none)) ["thing"] [] (sp_is_chance K) :=
  cb_of (T := t_is_chance K) (c.def_ 2 rfl) sc_is_chance (fun vs H Q E h => by
    obtain ⟨_, rfl, _⟩ := h
    rfl) (fun _ _ _ _ _ _ us hl => match us, hl with | [_], _ => rfl)
   (fun cdv A outer s H E hr => by
    have nd := sc_is_chance.nd
    have ho := out_def (cxD_takes (P := P) (w := w) (K := K) (mg := mg) (base := base) (N := N_is_chance) (qual := "is_chance") (st := s_is_chance) (f := He.fAd K ("is_chance", none)) (cdv := cdv) (A := A) (outer := outer) (s := s) (H := H) (E := E))
    have tk := cxD_takes (P := P) (w := w) (K := K) (mg := mg) (base := base) (N := N_is_chance) (qual := "is_chance") (st := s_is_chance) (f := He.fAd K ("is_chance", none)) (cdv := cdv) (A := A) (outer := outer) (s := s) (H := H) (E := E)
    have pz := cxD_passes (P := P) (w := w) (K := K) (mg := mg) (base := base) (N := N_is_chance) (qual := "is_chance") (st := s_is_chance) (f := He.fAd K ("is_chance", none)) (cdv := cdv) (A := A) (outer := outer) (s := s) (H := H) (E := E)
    exact pss_one (ps_ret (pe_and (pe_fun (cb_is_whole KX G c) (hr.mono (by decide)) (He.glo_ok KX G (c.fact 18 rfl)) ho (pa_cons (pv 0) (pa_nil))) (pe_one (pe_chain o_le o_le (pe_gint (He.int_ok KX G (c.fact 19 rfl))) (pv 0) (pe_op o_minus (pe_gint (He.int_ok KX G (c.fact 20 rfl))) (pe_gint (He.int_ok KX G (c.fact 19 rfl)))))))))
   (fun vs H Q E h => by
    obtain ⟨_, rfl, h⟩ := h
    haveI : HasCls K "Span" := ⟨He.cls_ok (c.fact 0 rfl)⟩
    haveI : HasNo K "Span" "low" := ⟨He.noat_ok (c.fact 1 rfl)⟩
    haveI : HasNo K "Span" "width" := ⟨He.noat_ok (c.fact 2 rfl)⟩
    haveI : HasNo K "Span" "size" := ⟨He.noat_ok (c.fact 3 rfl)⟩
    haveI : HasCls K "Seeker" := ⟨He.cls_ok (c.fact 4 rfl)⟩
    haveI : HasNo K "Seeker" "row" := ⟨He.noat_ok (c.fact 5 rfl)⟩
    haveI : HasNo K "Seeker" "span" := ⟨He.noat_ok (c.fact 6 rfl)⟩
    haveI : HasNo K "Seeker" "number" := ⟨He.noat_ok (c.fact 7 rfl)⟩
    haveI : HasNo K "Seeker" "taken" := ⟨He.noat_ok (c.fact 8 rfl)⟩
    haveI : HasExc K "NoBytes" := hexc_ok (c.ext 0 rfl)
    haveI : HasExm K "NoBytes" "ForetellError" true := hexm_ok (c.fact 9 rfl)
    haveI : HasKitT K "NoBytes" "ValueError" true := kitT_ok (c.ext 1 rfl)
    haveI : HasKit K "NoBytes" "NoChance" false := kit_ok (c.ext 2 rfl)
    haveI : HasKit K "NoBytes" "NoBit" false := kit_ok (c.ext 3 rfl)
    haveI : HasKit K "NoBytes" "NoBytes" true := kit_ok (c.ext 4 rfl)
    haveI : HasKit K "NoBytes" "NoMost" false := kit_ok (c.ext 5 rfl)
    haveI : HasKit K "NoBytes" "NoPress" false := kit_ok (c.ext 6 rfl)
    haveI : HasKit K "NoBytes" "NoText" false := kit_ok (c.ext 7 rfl)
    haveI : HasExc K "NoBit" := hexc_ok (c.ext 8 rfl)
    haveI : HasExm K "NoBit" "ForetellError" true := hexm_ok (c.fact 10 rfl)
    haveI : HasKitT K "NoBit" "ValueError" true := kitT_ok (c.ext 9 rfl)
    haveI : HasKit K "NoBit" "NoChance" false := kit_ok (c.ext 10 rfl)
    haveI : HasKit K "NoBit" "NoBit" true := kit_ok (c.ext 11 rfl)
    haveI : HasKit K "NoBit" "NoBytes" false := kit_ok (c.ext 12 rfl)
    haveI : HasKit K "NoBit" "NoMost" false := kit_ok (c.ext 13 rfl)
    haveI : HasKit K "NoBit" "NoPress" false := kit_ok (c.ext 14 rfl)
    haveI : HasKit K "NoBit" "NoText" false := kit_ok (c.ext 15 rfl)
    haveI : HasExc K "NoChance" := hexc_ok (c.ext 16 rfl)
    haveI : HasExm K "NoChance" "ForetellError" true := hexm_ok (c.fact 11 rfl)
    haveI : HasKitT K "NoChance" "ValueError" true := kitT_ok (c.ext 17 rfl)
    haveI : HasKit K "NoChance" "NoChance" true := kit_ok (c.ext 18 rfl)
    haveI : HasKit K "NoChance" "NoBit" false := kit_ok (c.ext 19 rfl)
    haveI : HasKit K "NoChance" "NoBytes" false := kit_ok (c.ext 20 rfl)
    haveI : HasKit K "NoChance" "NoMost" false := kit_ok (c.ext 21 rfl)
    haveI : HasKit K "NoChance" "NoPress" false := kit_ok (c.ext 22 rfl)
    haveI : HasKit K "NoChance" "NoText" false := kit_ok (c.ext 23 rfl)
    exact pure_is_chance K h)
theorem cb_is_sign (KX : K.In h) (G : h.Ns mainGlobals mg) (c : SaysX fa fn xf K) : Cb P w K mg base 2 (He.fAd K ("is_sign", none)) ["thing"] [] (sp_is_sign K) :=
  cb_of (T := t_is_sign K) (c.def_ 3 rfl) sc_is_sign (fun vs H Q E h => by
    obtain ⟨_, rfl, _⟩ := h
    rfl) (fun _ _ _ _ _ _ us hl => match us, hl with | [_], _ => rfl)
   (fun cdv A outer s H E hr => by
    have nd := sc_is_sign.nd
    have ho := out_def (cxD_takes (P := P) (w := w) (K := K) (mg := mg) (base := base) (N := N_is_sign) (qual := "is_sign") (st := s_is_sign) (f := He.fAd K ("is_sign", none)) (cdv := cdv) (A := A) (outer := outer) (s := s) (H := H) (E := E))
    have tk := cxD_takes (P := P) (w := w) (K := K) (mg := mg) (base := base) (N := N_is_sign) (qual := "is_sign") (st := s_is_sign) (f := He.fAd K ("is_sign", none)) (cdv := cdv) (A := A) (outer := outer) (s := s) (H := H) (E := E)
    have pz := cxD_passes (P := P) (w := w) (K := K) (mg := mg) (base := base) (N := N_is_sign) (qual := "is_sign") (st := s_is_sign) (f := He.fAd K ("is_sign", none)) (cdv := cdv) (A := A) (outer := outer) (s := s) (H := H) (E := E)
    exact pss_one (ps_ret (pe_and (pe_fun (cb_is_whole KX G c) (hr.mono (by decide)) (He.glo_ok KX G (c.fact 18 rfl)) ho (pa_cons (pv 0) (pa_nil))) (pe_one (pe_chain o_le o_le (pe_int) (pv 0) (pe_int))))))
   (fun vs H Q E h => by
    obtain ⟨_, rfl, h⟩ := h
    haveI : HasCls K "Span" := ⟨He.cls_ok (c.fact 0 rfl)⟩
    haveI : HasNo K "Span" "low" := ⟨He.noat_ok (c.fact 1 rfl)⟩
    haveI : HasNo K "Span" "width" := ⟨He.noat_ok (c.fact 2 rfl)⟩
    haveI : HasNo K "Span" "size" := ⟨He.noat_ok (c.fact 3 rfl)⟩
    haveI : HasCls K "Seeker" := ⟨He.cls_ok (c.fact 4 rfl)⟩
    haveI : HasNo K "Seeker" "row" := ⟨He.noat_ok (c.fact 5 rfl)⟩
    haveI : HasNo K "Seeker" "span" := ⟨He.noat_ok (c.fact 6 rfl)⟩
    haveI : HasNo K "Seeker" "number" := ⟨He.noat_ok (c.fact 7 rfl)⟩
    haveI : HasNo K "Seeker" "taken" := ⟨He.noat_ok (c.fact 8 rfl)⟩
    haveI : HasExc K "NoBytes" := hexc_ok (c.ext 0 rfl)
    haveI : HasExm K "NoBytes" "ForetellError" true := hexm_ok (c.fact 9 rfl)
    haveI : HasKitT K "NoBytes" "ValueError" true := kitT_ok (c.ext 1 rfl)
    haveI : HasKit K "NoBytes" "NoChance" false := kit_ok (c.ext 2 rfl)
    haveI : HasKit K "NoBytes" "NoBit" false := kit_ok (c.ext 3 rfl)
    haveI : HasKit K "NoBytes" "NoBytes" true := kit_ok (c.ext 4 rfl)
    haveI : HasKit K "NoBytes" "NoMost" false := kit_ok (c.ext 5 rfl)
    haveI : HasKit K "NoBytes" "NoPress" false := kit_ok (c.ext 6 rfl)
    haveI : HasKit K "NoBytes" "NoText" false := kit_ok (c.ext 7 rfl)
    haveI : HasExc K "NoBit" := hexc_ok (c.ext 8 rfl)
    haveI : HasExm K "NoBit" "ForetellError" true := hexm_ok (c.fact 10 rfl)
    haveI : HasKitT K "NoBit" "ValueError" true := kitT_ok (c.ext 9 rfl)
    haveI : HasKit K "NoBit" "NoChance" false := kit_ok (c.ext 10 rfl)
    haveI : HasKit K "NoBit" "NoBit" true := kit_ok (c.ext 11 rfl)
    haveI : HasKit K "NoBit" "NoBytes" false := kit_ok (c.ext 12 rfl)
    haveI : HasKit K "NoBit" "NoMost" false := kit_ok (c.ext 13 rfl)
    haveI : HasKit K "NoBit" "NoPress" false := kit_ok (c.ext 14 rfl)
    haveI : HasKit K "NoBit" "NoText" false := kit_ok (c.ext 15 rfl)
    haveI : HasExc K "NoChance" := hexc_ok (c.ext 16 rfl)
    haveI : HasExm K "NoChance" "ForetellError" true := hexm_ok (c.fact 11 rfl)
    haveI : HasKitT K "NoChance" "ValueError" true := kitT_ok (c.ext 17 rfl)
    haveI : HasKit K "NoChance" "NoChance" true := kit_ok (c.ext 18 rfl)
    haveI : HasKit K "NoChance" "NoBit" false := kit_ok (c.ext 19 rfl)
    haveI : HasKit K "NoChance" "NoBytes" false := kit_ok (c.ext 20 rfl)
    haveI : HasKit K "NoChance" "NoMost" false := kit_ok (c.ext 21 rfl)
    haveI : HasKit K "NoChance" "NoPress" false := kit_ok (c.ext 22 rfl)
    haveI : HasKit K "NoChance" "NoText" false := kit_ok (c.ext 23 rfl)
    exact pure_is_sign K h)
theorem cb_Span_settled (KX : K.In h) (G : h.Ns mainGlobals mg) (c : SaysX fa fn xf K) : Cb P w K mg base 2 (He.fAd K ("Span", some "settled")) ["self"] [] (sp_Span_settled K) :=
  cb_of (T := t_Span_settled K) (c.def_ 12 rfl) sc_Span_settled (fun vs H Q E h => by
    obtain ⟨_, rfl, _⟩ := h
    rfl) (fun _ _ _ _ _ _ us hl => match us, hl with | [_], _ => rfl)
   (fun cdv A outer s H E hr => by
    have nd := sc_Span_settled.nd
    have ho := out_def (cxD_takes (P := P) (w := w) (K := K) (mg := mg) (base := base) (N := N_Span_settled) (qual := "Span.settled") (st := s_Span_settled) (f := He.fAd K ("Span", some "settled")) (cdv := cdv) (A := A) (outer := outer) (s := s) (H := H) (E := E))
    have tk := cxD_takes (P := P) (w := w) (K := K) (mg := mg) (base := base) (N := N_Span_settled) (qual := "Span.settled") (st := s_Span_settled) (f := He.fAd K ("Span", some "settled")) (cdv := cdv) (A := A) (outer := outer) (s := s) (H := H) (E := E)
    have pz := cxD_passes (P := P) (w := w) (K := K) (mg := mg) (base := base) (N := N_Span_settled) (qual := "Span.settled") (st := s_Span_settled) (f := He.fAd K ("Span", some "settled")) (cdv := cdv) (A := A) (outer := outer) (s := s) (H := H) (E := E)
    exact pss_cons (ps_set (i := 1) nd rfl (by first | exact Or.inl rfl | exact Or.inr rfl) (pe_fld (pv 0) rfl))
       (pss_cons (ps_set (i := 2) nd rfl (by first | exact Or.inl rfl | exact Or.inr rfl) (pe_op o_minus (pe_op o_plus (pe_fld (pv 0) rfl) (pe_fld (pv 0) rfl)) (pe_int)))
       (pss_cons (ps_set (i := 3) nd rfl (by first | exact Or.inl rfl | exact Or.inr rfl) (pe_fld (pv 0) rfl))
       (pss_cons (ps_while pz (pt_cmpR (o_diff hr.units) (pv 1) (pv 2) (nomark _)) (pss_cons (ps_set (i := 1) nd rfl (by first | exact Or.inl rfl | exact Or.inr rfl) (pe_op o_rsh (pv 1) (pe_int)))
       (pss_cons (ps_set (i := 2) nd rfl (by first | exact Or.inl rfl | exact Or.inr rfl) (pe_op o_rsh (pv 2) (pe_int)))
       (pss_one (ps_aug (i := 3) nd rfl (by first | exact Or.inl rfl | exact Or.inr rfl) (pe_int) ip_sub)))))
       (pss_one (ps_ret (pe_fun (cb_bytes_of_number KX G c) (hr.mono (by decide)) (He.glo_ok KX G (c.fact 21 rfl)) ho (pa_cons (pv 1) (pa_cons (pv 3) (pa_nil))))))))))
   (fun vs H Q E h => by
    obtain ⟨_, rfl, h⟩ := h
    haveI : HasCls K "Span" := ⟨He.cls_ok (c.fact 0 rfl)⟩
    haveI : HasNo K "Span" "low" := ⟨He.noat_ok (c.fact 1 rfl)⟩
    haveI : HasNo K "Span" "width" := ⟨He.noat_ok (c.fact 2 rfl)⟩
    haveI : HasNo K "Span" "size" := ⟨He.noat_ok (c.fact 3 rfl)⟩
    haveI : HasCls K "Seeker" := ⟨He.cls_ok (c.fact 4 rfl)⟩
    haveI : HasNo K "Seeker" "row" := ⟨He.noat_ok (c.fact 5 rfl)⟩
    haveI : HasNo K "Seeker" "span" := ⟨He.noat_ok (c.fact 6 rfl)⟩
    haveI : HasNo K "Seeker" "number" := ⟨He.noat_ok (c.fact 7 rfl)⟩
    haveI : HasNo K "Seeker" "taken" := ⟨He.noat_ok (c.fact 8 rfl)⟩
    haveI : HasExc K "NoBytes" := hexc_ok (c.ext 0 rfl)
    haveI : HasExm K "NoBytes" "ForetellError" true := hexm_ok (c.fact 9 rfl)
    haveI : HasKitT K "NoBytes" "ValueError" true := kitT_ok (c.ext 1 rfl)
    haveI : HasKit K "NoBytes" "NoChance" false := kit_ok (c.ext 2 rfl)
    haveI : HasKit K "NoBytes" "NoBit" false := kit_ok (c.ext 3 rfl)
    haveI : HasKit K "NoBytes" "NoBytes" true := kit_ok (c.ext 4 rfl)
    haveI : HasKit K "NoBytes" "NoMost" false := kit_ok (c.ext 5 rfl)
    haveI : HasKit K "NoBytes" "NoPress" false := kit_ok (c.ext 6 rfl)
    haveI : HasKit K "NoBytes" "NoText" false := kit_ok (c.ext 7 rfl)
    haveI : HasExc K "NoBit" := hexc_ok (c.ext 8 rfl)
    haveI : HasExm K "NoBit" "ForetellError" true := hexm_ok (c.fact 10 rfl)
    haveI : HasKitT K "NoBit" "ValueError" true := kitT_ok (c.ext 9 rfl)
    haveI : HasKit K "NoBit" "NoChance" false := kit_ok (c.ext 10 rfl)
    haveI : HasKit K "NoBit" "NoBit" true := kit_ok (c.ext 11 rfl)
    haveI : HasKit K "NoBit" "NoBytes" false := kit_ok (c.ext 12 rfl)
    haveI : HasKit K "NoBit" "NoMost" false := kit_ok (c.ext 13 rfl)
    haveI : HasKit K "NoBit" "NoPress" false := kit_ok (c.ext 14 rfl)
    haveI : HasKit K "NoBit" "NoText" false := kit_ok (c.ext 15 rfl)
    haveI : HasExc K "NoChance" := hexc_ok (c.ext 16 rfl)
    haveI : HasExm K "NoChance" "ForetellError" true := hexm_ok (c.fact 11 rfl)
    haveI : HasKitT K "NoChance" "ValueError" true := kitT_ok (c.ext 17 rfl)
    haveI : HasKit K "NoChance" "NoChance" true := kit_ok (c.ext 18 rfl)
    haveI : HasKit K "NoChance" "NoBit" false := kit_ok (c.ext 19 rfl)
    haveI : HasKit K "NoChance" "NoBytes" false := kit_ok (c.ext 20 rfl)
    haveI : HasKit K "NoChance" "NoMost" false := kit_ok (c.ext 21 rfl)
    haveI : HasKit K "NoChance" "NoPress" false := kit_ok (c.ext 22 rfl)
    haveI : HasKit K "NoChance" "NoText" false := kit_ok (c.ext 23 rfl)
    exact pure_Span_settled K h)
theorem cb_Span_told (KX : K.In h) (G : h.Ns mainGlobals mg) (c : SaysX fa fn xf K) : Cb P w K mg base 2 (He.fAd K ("Span", some "told")) ["self"] [] (sp_Span_told K) :=
  cb_of (T := t_Span_told K) (c.def_ 13 rfl) sc_Span_told (fun vs H Q E h => by
    obtain ⟨_, rfl, _⟩ := h
    rfl) (fun _ _ _ _ _ _ us hl => match us, hl with | [_], _ => rfl)
   (fun cdv A outer s H E hr => by
    have nd := sc_Span_told.nd
    have ho := out_def (cxD_takes (P := P) (w := w) (K := K) (mg := mg) (base := base) (N := N_Span_told) (qual := "Span.told") (st := s_Span_told) (f := He.fAd K ("Span", some "told")) (cdv := cdv) (A := A) (outer := outer) (s := s) (H := H) (E := E))
    have tk := cxD_takes (P := P) (w := w) (K := K) (mg := mg) (base := base) (N := N_Span_told) (qual := "Span.told") (st := s_Span_told) (f := He.fAd K ("Span", some "told")) (cdv := cdv) (A := A) (outer := outer) (s := s) (H := H) (E := E)
    have pz := cxD_passes (P := P) (w := w) (K := K) (mg := mg) (base := base) (N := N_Span_told) (qual := "Span.told") (st := s_Span_told) (f := He.fAd K ("Span", some "told")) (cdv := cdv) (A := A) (outer := outer) (s := s) (H := H) (E := E)
    exact pss_cons (ps_set (i := 1) nd rfl (by first | exact Or.inl rfl | exact Or.inr rfl) (pe_int))
       (pss_cons (ps_set (i := 2) nd rfl (by first | exact Or.inl rfl | exact Or.inr rfl) (pe_gint (He.int_ok KX G (c.fact 16 rfl))))
       (pss_cons (ps_set (i := 3) nd rfl (by first | exact Or.inl rfl | exact Or.inr rfl) (pe_un o_neg (pe_op o_floor (pe_un o_neg (pe_fld (pv 0) rfl)) (pv 2))))
       (pss_cons (ps_while pz (pt_cmpR o_gt (pe_op o_times (pe_op o_plus (pv 3) (pe_int)) (pv 2)) (pe_op o_plus (pe_fld (pv 0) rfl) (pe_fld (pv 0) rfl)) (nomark _)) (pss_cons (ps_aug (i := 1) nd rfl (by first | exact Or.inl rfl | exact Or.inr rfl) (pe_int) ip_sub)
       (pss_cons (ps_set (i := 2) nd rfl (by first | exact Or.inl rfl | exact Or.inr rfl) (pe_op o_rsh (pv 2) (pe_int)))
       (pss_one (ps_set (i := 3) nd rfl (by first | exact Or.inl rfl | exact Or.inr rfl) (pe_un o_neg (pe_op o_floor (pe_un o_neg (pe_fld (pv 0) rfl)) (pv 2))))))))
       (pss_one (ps_ret (pe_fun (cb_bytes_of_number KX G c) (hr.mono (by decide)) (He.glo_ok KX G (c.fact 21 rfl)) ho (pa_cons (pv 3) (pa_cons (pe_op o_minus (pe_fld (pv 0) rfl) (pv 1)) (pa_nil))))))))))
   (fun vs H Q E h => by
    obtain ⟨_, rfl, h⟩ := h
    haveI : HasCls K "Span" := ⟨He.cls_ok (c.fact 0 rfl)⟩
    haveI : HasNo K "Span" "low" := ⟨He.noat_ok (c.fact 1 rfl)⟩
    haveI : HasNo K "Span" "width" := ⟨He.noat_ok (c.fact 2 rfl)⟩
    haveI : HasNo K "Span" "size" := ⟨He.noat_ok (c.fact 3 rfl)⟩
    haveI : HasCls K "Seeker" := ⟨He.cls_ok (c.fact 4 rfl)⟩
    haveI : HasNo K "Seeker" "row" := ⟨He.noat_ok (c.fact 5 rfl)⟩
    haveI : HasNo K "Seeker" "span" := ⟨He.noat_ok (c.fact 6 rfl)⟩
    haveI : HasNo K "Seeker" "number" := ⟨He.noat_ok (c.fact 7 rfl)⟩
    haveI : HasNo K "Seeker" "taken" := ⟨He.noat_ok (c.fact 8 rfl)⟩
    haveI : HasExc K "NoBytes" := hexc_ok (c.ext 0 rfl)
    haveI : HasExm K "NoBytes" "ForetellError" true := hexm_ok (c.fact 9 rfl)
    haveI : HasKitT K "NoBytes" "ValueError" true := kitT_ok (c.ext 1 rfl)
    haveI : HasKit K "NoBytes" "NoChance" false := kit_ok (c.ext 2 rfl)
    haveI : HasKit K "NoBytes" "NoBit" false := kit_ok (c.ext 3 rfl)
    haveI : HasKit K "NoBytes" "NoBytes" true := kit_ok (c.ext 4 rfl)
    haveI : HasKit K "NoBytes" "NoMost" false := kit_ok (c.ext 5 rfl)
    haveI : HasKit K "NoBytes" "NoPress" false := kit_ok (c.ext 6 rfl)
    haveI : HasKit K "NoBytes" "NoText" false := kit_ok (c.ext 7 rfl)
    haveI : HasExc K "NoBit" := hexc_ok (c.ext 8 rfl)
    haveI : HasExm K "NoBit" "ForetellError" true := hexm_ok (c.fact 10 rfl)
    haveI : HasKitT K "NoBit" "ValueError" true := kitT_ok (c.ext 9 rfl)
    haveI : HasKit K "NoBit" "NoChance" false := kit_ok (c.ext 10 rfl)
    haveI : HasKit K "NoBit" "NoBit" true := kit_ok (c.ext 11 rfl)
    haveI : HasKit K "NoBit" "NoBytes" false := kit_ok (c.ext 12 rfl)
    haveI : HasKit K "NoBit" "NoMost" false := kit_ok (c.ext 13 rfl)
    haveI : HasKit K "NoBit" "NoPress" false := kit_ok (c.ext 14 rfl)
    haveI : HasKit K "NoBit" "NoText" false := kit_ok (c.ext 15 rfl)
    haveI : HasExc K "NoChance" := hexc_ok (c.ext 16 rfl)
    haveI : HasExm K "NoChance" "ForetellError" true := hexm_ok (c.fact 11 rfl)
    haveI : HasKitT K "NoChance" "ValueError" true := kitT_ok (c.ext 17 rfl)
    haveI : HasKit K "NoChance" "NoChance" true := kit_ok (c.ext 18 rfl)
    haveI : HasKit K "NoChance" "NoBit" false := kit_ok (c.ext 19 rfl)
    haveI : HasKit K "NoChance" "NoBytes" false := kit_ok (c.ext 20 rfl)
    haveI : HasKit K "NoChance" "NoMost" false := kit_ok (c.ext 21 rfl)
    haveI : HasKit K "NoChance" "NoPress" false := kit_ok (c.ext 22 rfl)
    haveI : HasKit K "NoChance" "NoText" false := kit_ok (c.ext 23 rfl)
    exact pure_Span_told K h)
theorem cb_Seeker_take (KX : K.In h) (G : h.Ns mainGlobals mg) (c : SaysX fa fn xf K) : Cb P w K mg base 2 (He.fAd K ("Seeker", some "take")) ["self"] [] (sp_Seeker_take K) :=
  cb_of (T := t_Seeker_take K) (c.def_ 15 rfl) sc_Seeker_take (fun vs H Q E h => by
    obtain ⟨_, rfl, _⟩ := h
    rfl) (fun _ _ _ _ _ _ us hl => match us, hl with | [_], _ => rfl)
   (fun cdv A outer s H E hr => by
    have nd := sc_Seeker_take.nd
    have ho := out_def (cxD_takes (P := P) (w := w) (K := K) (mg := mg) (base := base) (N := N_Seeker_take) (qual := "Seeker.take") (st := s_Seeker_take) (f := He.fAd K ("Seeker", some "take")) (cdv := cdv) (A := A) (outer := outer) (s := s) (H := H) (E := E))
    have tk := cxD_takes (P := P) (w := w) (K := K) (mg := mg) (base := base) (N := N_Seeker_take) (qual := "Seeker.take") (st := s_Seeker_take) (f := He.fAd K ("Seeker", some "take")) (cdv := cdv) (A := A) (outer := outer) (s := s) (H := H) (E := E)
    have pz := cxD_passes (P := P) (w := w) (K := K) (mg := mg) (base := base) (N := N_Seeker_take) (qual := "Seeker.take") (st := s_Seeker_take) (f := He.fAd K ("Seeker", some "take")) (cdv := cdv) (A := A) (outer := outer) (s := s) (H := H) (E := E)
    exact pss_cons (ps_set (i := 1) nd rfl (by first | exact Or.inl rfl | exact Or.inr rfl) (pe_ix ix_seq (pe_mth0 (k := 1) (pe_fld (pv 0) rfl) (mo_one (He.cls_ok (c.fact 0 rfl)) (He.meth_ok (c.fact 22 rfl)) (cb_Span_ends KX G c) (by decide)) hr ho) (pe_int) (fun _ _ => rfl)))
       (pss_one (ps_while pz (pt_cmpR o_lt (pe_fld (pv 0) rfl) (pv 1) (nomark _)) (pss_cons (ps_set (i := 2) nd rfl (by first | exact Or.inl rfl | exact Or.inr rfl) (pe_int))
       (pss_cons (ps_if (pt_cmpR o_lt (pe_fld (pv 0) rfl) (pe_callB c_len (by rfl) (He.free_ok KX G (c.fact 17 rfl)) (by decide +kernel) (pa_cons (pe_fld (pv 0) rfl) (pa_nil))) (nomark _)) (pss_one (ps_set (i := 2) nd rfl (by first | exact Or.inl rfl | exact Or.inr rfl) (pe_ix ix_seq (pe_fld (pv 0) rfl) (pe_fld (pv 0) rfl) (fun _ _ => rfl)))) (pss_nil))
       (pss_cons (ps_fld (pv 0) (pe_op o_plus (pe_op o_lsh (pe_fld (pv 0) rfl) (pe_int)) (pv 2)) rfl)
       (pss_one (ps_fldaug (pv 0) (pe_int) in_add))))))))
   (fun vs H Q E h => by
    obtain ⟨_, rfl, h⟩ := h
    haveI : HasCls K "Span" := ⟨He.cls_ok (c.fact 0 rfl)⟩
    haveI : HasNo K "Span" "low" := ⟨He.noat_ok (c.fact 1 rfl)⟩
    haveI : HasNo K "Span" "width" := ⟨He.noat_ok (c.fact 2 rfl)⟩
    haveI : HasNo K "Span" "size" := ⟨He.noat_ok (c.fact 3 rfl)⟩
    haveI : HasCls K "Seeker" := ⟨He.cls_ok (c.fact 4 rfl)⟩
    haveI : HasNo K "Seeker" "row" := ⟨He.noat_ok (c.fact 5 rfl)⟩
    haveI : HasNo K "Seeker" "span" := ⟨He.noat_ok (c.fact 6 rfl)⟩
    haveI : HasNo K "Seeker" "number" := ⟨He.noat_ok (c.fact 7 rfl)⟩
    haveI : HasNo K "Seeker" "taken" := ⟨He.noat_ok (c.fact 8 rfl)⟩
    haveI : HasExc K "NoBytes" := hexc_ok (c.ext 0 rfl)
    haveI : HasExm K "NoBytes" "ForetellError" true := hexm_ok (c.fact 9 rfl)
    haveI : HasKitT K "NoBytes" "ValueError" true := kitT_ok (c.ext 1 rfl)
    haveI : HasKit K "NoBytes" "NoChance" false := kit_ok (c.ext 2 rfl)
    haveI : HasKit K "NoBytes" "NoBit" false := kit_ok (c.ext 3 rfl)
    haveI : HasKit K "NoBytes" "NoBytes" true := kit_ok (c.ext 4 rfl)
    haveI : HasKit K "NoBytes" "NoMost" false := kit_ok (c.ext 5 rfl)
    haveI : HasKit K "NoBytes" "NoPress" false := kit_ok (c.ext 6 rfl)
    haveI : HasKit K "NoBytes" "NoText" false := kit_ok (c.ext 7 rfl)
    haveI : HasExc K "NoBit" := hexc_ok (c.ext 8 rfl)
    haveI : HasExm K "NoBit" "ForetellError" true := hexm_ok (c.fact 10 rfl)
    haveI : HasKitT K "NoBit" "ValueError" true := kitT_ok (c.ext 9 rfl)
    haveI : HasKit K "NoBit" "NoChance" false := kit_ok (c.ext 10 rfl)
    haveI : HasKit K "NoBit" "NoBit" true := kit_ok (c.ext 11 rfl)
    haveI : HasKit K "NoBit" "NoBytes" false := kit_ok (c.ext 12 rfl)
    haveI : HasKit K "NoBit" "NoMost" false := kit_ok (c.ext 13 rfl)
    haveI : HasKit K "NoBit" "NoPress" false := kit_ok (c.ext 14 rfl)
    haveI : HasKit K "NoBit" "NoText" false := kit_ok (c.ext 15 rfl)
    haveI : HasExc K "NoChance" := hexc_ok (c.ext 16 rfl)
    haveI : HasExm K "NoChance" "ForetellError" true := hexm_ok (c.fact 11 rfl)
    haveI : HasKitT K "NoChance" "ValueError" true := kitT_ok (c.ext 17 rfl)
    haveI : HasKit K "NoChance" "NoChance" true := kit_ok (c.ext 18 rfl)
    haveI : HasKit K "NoChance" "NoBit" false := kit_ok (c.ext 19 rfl)
    haveI : HasKit K "NoChance" "NoBytes" false := kit_ok (c.ext 20 rfl)
    haveI : HasKit K "NoChance" "NoMost" false := kit_ok (c.ext 21 rfl)
    haveI : HasKit K "NoChance" "NoPress" false := kit_ok (c.ext 22 rfl)
    haveI : HasKit K "NoChance" "NoText" false := kit_ok (c.ext 23 rfl)
    exact pure_Seeker_take K h)
theorem cb_Seeker_ends (KX : K.In h) (G : h.Ns mainGlobals mg) (c : SaysX fa fn xf K) : Cb P w K mg base 2 (He.fAd K ("Seeker", some "ends")) ["self"] [] (sp_Seeker_ends K) :=
  cb_of (T := t_Seeker_ends K) (c.def_ 17 rfl) sc_Seeker_ends (fun vs H Q E h => by
    obtain ⟨_, rfl, _⟩ := h
    rfl) (fun _ _ _ _ _ _ us hl => match us, hl with | [_], _ => rfl)
   (fun cdv A outer s H E hr => by
    have nd := sc_Seeker_ends.nd
    have ho := out_def (cxD_takes (P := P) (w := w) (K := K) (mg := mg) (base := base) (N := N_Seeker_ends) (qual := "Seeker.ends") (st := s_Seeker_ends) (f := He.fAd K ("Seeker", some "ends")) (cdv := cdv) (A := A) (outer := outer) (s := s) (H := H) (E := E))
    have tk := cxD_takes (P := P) (w := w) (K := K) (mg := mg) (base := base) (N := N_Seeker_ends) (qual := "Seeker.ends") (st := s_Seeker_ends) (f := He.fAd K ("Seeker", some "ends")) (cdv := cdv) (A := A) (outer := outer) (s := s) (H := H) (E := E)
    have pz := cxD_passes (P := P) (w := w) (K := K) (mg := mg) (base := base) (N := N_Seeker_ends) (qual := "Seeker.ends") (st := s_Seeker_ends) (f := He.fAd K ("Seeker", some "ends")) (cdv := cdv) (A := A) (outer := outer) (s := s) (H := H) (E := E)
    exact pss_one (ps_ret (pe_mth0 (k := 1) (pe_fld (pv 0) rfl) (mo_one (He.cls_ok (c.fact 0 rfl)) (He.meth_ok (c.fact 22 rfl)) (cb_Span_ends KX G c) (by decide)) hr ho)))
   (fun vs H Q E h => by
    obtain ⟨_, rfl, h⟩ := h
    haveI : HasCls K "Span" := ⟨He.cls_ok (c.fact 0 rfl)⟩
    haveI : HasNo K "Span" "low" := ⟨He.noat_ok (c.fact 1 rfl)⟩
    haveI : HasNo K "Span" "width" := ⟨He.noat_ok (c.fact 2 rfl)⟩
    haveI : HasNo K "Span" "size" := ⟨He.noat_ok (c.fact 3 rfl)⟩
    haveI : HasCls K "Seeker" := ⟨He.cls_ok (c.fact 4 rfl)⟩
    haveI : HasNo K "Seeker" "row" := ⟨He.noat_ok (c.fact 5 rfl)⟩
    haveI : HasNo K "Seeker" "span" := ⟨He.noat_ok (c.fact 6 rfl)⟩
    haveI : HasNo K "Seeker" "number" := ⟨He.noat_ok (c.fact 7 rfl)⟩
    haveI : HasNo K "Seeker" "taken" := ⟨He.noat_ok (c.fact 8 rfl)⟩
    haveI : HasExc K "NoBytes" := hexc_ok (c.ext 0 rfl)
    haveI : HasExm K "NoBytes" "ForetellError" true := hexm_ok (c.fact 9 rfl)
    haveI : HasKitT K "NoBytes" "ValueError" true := kitT_ok (c.ext 1 rfl)
    haveI : HasKit K "NoBytes" "NoChance" false := kit_ok (c.ext 2 rfl)
    haveI : HasKit K "NoBytes" "NoBit" false := kit_ok (c.ext 3 rfl)
    haveI : HasKit K "NoBytes" "NoBytes" true := kit_ok (c.ext 4 rfl)
    haveI : HasKit K "NoBytes" "NoMost" false := kit_ok (c.ext 5 rfl)
    haveI : HasKit K "NoBytes" "NoPress" false := kit_ok (c.ext 6 rfl)
    haveI : HasKit K "NoBytes" "NoText" false := kit_ok (c.ext 7 rfl)
    haveI : HasExc K "NoBit" := hexc_ok (c.ext 8 rfl)
    haveI : HasExm K "NoBit" "ForetellError" true := hexm_ok (c.fact 10 rfl)
    haveI : HasKitT K "NoBit" "ValueError" true := kitT_ok (c.ext 9 rfl)
    haveI : HasKit K "NoBit" "NoChance" false := kit_ok (c.ext 10 rfl)
    haveI : HasKit K "NoBit" "NoBit" true := kit_ok (c.ext 11 rfl)
    haveI : HasKit K "NoBit" "NoBytes" false := kit_ok (c.ext 12 rfl)
    haveI : HasKit K "NoBit" "NoMost" false := kit_ok (c.ext 13 rfl)
    haveI : HasKit K "NoBit" "NoPress" false := kit_ok (c.ext 14 rfl)
    haveI : HasKit K "NoBit" "NoText" false := kit_ok (c.ext 15 rfl)
    haveI : HasExc K "NoChance" := hexc_ok (c.ext 16 rfl)
    haveI : HasExm K "NoChance" "ForetellError" true := hexm_ok (c.fact 11 rfl)
    haveI : HasKitT K "NoChance" "ValueError" true := kitT_ok (c.ext 17 rfl)
    haveI : HasKit K "NoChance" "NoChance" true := kit_ok (c.ext 18 rfl)
    haveI : HasKit K "NoChance" "NoBit" false := kit_ok (c.ext 19 rfl)
    haveI : HasKit K "NoChance" "NoBytes" false := kit_ok (c.ext 20 rfl)
    haveI : HasKit K "NoChance" "NoMost" false := kit_ok (c.ext 21 rfl)
    haveI : HasKit K "NoChance" "NoPress" false := kit_ok (c.ext 22 rfl)
    haveI : HasKit K "NoChance" "NoText" false := kit_ok (c.ext 23 rfl)
    exact pure_Seeker_ends K h)
theorem cb_are_signs (KX : K.In h) (G : h.Ns mainGlobals mg) (c : SaysX fa fn xf K) : Cb P w K mg base 3 (He.fAd K ("are_signs", none)) ["thing", "most"] [] (sp_are_signs K) :=
  cb_of (T := t_are_signs K) (c.def_ 4 rfl) sc_are_signs (fun vs H Q E h => by
    obtain ⟨_, _, rfl, _⟩ := h
    rfl) (fun _ _ _ _ _ _ us hl => match us, hl with | [_, _], _ => rfl)
   (fun cdv A outer s H E hr => by
    have nd := sc_are_signs.nd
    have ho := out_def (cxD_takes (P := P) (w := w) (K := K) (mg := mg) (base := base) (N := N_are_signs) (qual := "are_signs") (st := s_are_signs) (f := He.fAd K ("are_signs", none)) (cdv := cdv) (A := A) (outer := outer) (s := s) (H := H) (E := E))
    have tk := cxD_takes (P := P) (w := w) (K := K) (mg := mg) (base := base) (N := N_are_signs) (qual := "are_signs") (st := s_are_signs) (f := He.fAd K ("are_signs", none)) (cdv := cdv) (A := A) (outer := outer) (s := s) (H := H) (E := E)
    have pz := cxD_passes (P := P) (w := w) (K := K) (mg := mg) (base := base) (N := N_are_signs) (qual := "are_signs") (st := s_are_signs) (f := He.fAd K ("are_signs", none)) (cdv := cdv) (A := A) (outer := outer) (s := s) (H := H) (E := E)
    exact pss_cons (ps_if (PW.pt (pw_or (pt_not (pt_tru (pe_callB c_isi (by rfl) (He.free_ok KX G (c.fact 12 rfl)) (by decide +kernel) (pa_cons (pv 0) (pa_cons (pe_gty (He.free_ok KX G (c.fact 23 rfl)) (by decide +kernel)) (pa_nil)))))) (pw_or1 (pt_cmpR o_gt (pe_callB c_len (by rfl) (He.free_ok KX G (c.fact 17 rfl)) (by decide +kernel) (pa_cons (pv 0) (pa_nil))) (pv 1) (nomark _))))) (pss_one (ps_ret (pe_bl))) (pss_nil))
       (pss_one (ps_ret (pe_callB (c_all rfl) (by rfl) (He.free_ok KX G (c.fact 24 rfl)) (by decide +kernel) (pa_cons (pe_lc (own := [("sign", 2)]) (g := gName 2) (tt := tYes) rfl nd (pi_list (pv 0)) (blkOk_by (N := N_are_signs) (sc := defScope s_are_signs) (by decide +kernel)) (fun _ _ _ _ _ => pg_name (i := 2) nd rfl (by first | exact Or.inl rfl | exact Or.inr rfl)) (fun _ _ _ _ _ => pts_nil) (fun _ _ _ _ _ => pe_fun (cb_is_sign KX G c) (hr.mono (by decide)) (He.glo_ok KX G (c.fact 25 rfl)) out_none (pa_cons (pv 2) (pa_nil)))) (pa_nil))))))
   (fun vs H Q E h => by
    obtain ⟨_, _, rfl, h⟩ := h
    haveI : HasCls K "Span" := ⟨He.cls_ok (c.fact 0 rfl)⟩
    haveI : HasNo K "Span" "low" := ⟨He.noat_ok (c.fact 1 rfl)⟩
    haveI : HasNo K "Span" "width" := ⟨He.noat_ok (c.fact 2 rfl)⟩
    haveI : HasNo K "Span" "size" := ⟨He.noat_ok (c.fact 3 rfl)⟩
    haveI : HasCls K "Seeker" := ⟨He.cls_ok (c.fact 4 rfl)⟩
    haveI : HasNo K "Seeker" "row" := ⟨He.noat_ok (c.fact 5 rfl)⟩
    haveI : HasNo K "Seeker" "span" := ⟨He.noat_ok (c.fact 6 rfl)⟩
    haveI : HasNo K "Seeker" "number" := ⟨He.noat_ok (c.fact 7 rfl)⟩
    haveI : HasNo K "Seeker" "taken" := ⟨He.noat_ok (c.fact 8 rfl)⟩
    haveI : HasExc K "NoBytes" := hexc_ok (c.ext 0 rfl)
    haveI : HasExm K "NoBytes" "ForetellError" true := hexm_ok (c.fact 9 rfl)
    haveI : HasKitT K "NoBytes" "ValueError" true := kitT_ok (c.ext 1 rfl)
    haveI : HasKit K "NoBytes" "NoChance" false := kit_ok (c.ext 2 rfl)
    haveI : HasKit K "NoBytes" "NoBit" false := kit_ok (c.ext 3 rfl)
    haveI : HasKit K "NoBytes" "NoBytes" true := kit_ok (c.ext 4 rfl)
    haveI : HasKit K "NoBytes" "NoMost" false := kit_ok (c.ext 5 rfl)
    haveI : HasKit K "NoBytes" "NoPress" false := kit_ok (c.ext 6 rfl)
    haveI : HasKit K "NoBytes" "NoText" false := kit_ok (c.ext 7 rfl)
    haveI : HasExc K "NoBit" := hexc_ok (c.ext 8 rfl)
    haveI : HasExm K "NoBit" "ForetellError" true := hexm_ok (c.fact 10 rfl)
    haveI : HasKitT K "NoBit" "ValueError" true := kitT_ok (c.ext 9 rfl)
    haveI : HasKit K "NoBit" "NoChance" false := kit_ok (c.ext 10 rfl)
    haveI : HasKit K "NoBit" "NoBit" true := kit_ok (c.ext 11 rfl)
    haveI : HasKit K "NoBit" "NoBytes" false := kit_ok (c.ext 12 rfl)
    haveI : HasKit K "NoBit" "NoMost" false := kit_ok (c.ext 13 rfl)
    haveI : HasKit K "NoBit" "NoPress" false := kit_ok (c.ext 14 rfl)
    haveI : HasKit K "NoBit" "NoText" false := kit_ok (c.ext 15 rfl)
    haveI : HasExc K "NoChance" := hexc_ok (c.ext 16 rfl)
    haveI : HasExm K "NoChance" "ForetellError" true := hexm_ok (c.fact 11 rfl)
    haveI : HasKitT K "NoChance" "ValueError" true := kitT_ok (c.ext 17 rfl)
    haveI : HasKit K "NoChance" "NoChance" true := kit_ok (c.ext 18 rfl)
    haveI : HasKit K "NoChance" "NoBit" false := kit_ok (c.ext 19 rfl)
    haveI : HasKit K "NoChance" "NoBytes" false := kit_ok (c.ext 20 rfl)
    haveI : HasKit K "NoChance" "NoMost" false := kit_ok (c.ext 21 rfl)
    haveI : HasKit K "NoChance" "NoPress" false := kit_ok (c.ext 22 rfl)
    haveI : HasKit K "NoChance" "NoText" false := kit_ok (c.ext 23 rfl)
    exact pure_are_signs K h)
theorem cb_checked_bit (KX : K.In h) (G : h.Ns mainGlobals mg) (c : SaysX fa fn xf K) : Cb P w K mg base 3 (He.fAd K ("checked_bit", none)) ["thing"] [] (sp_checked_bit K) :=
  cb_of (T := t_checked_bit K) (c.def_ 6 rfl) sc_checked_bit (fun vs H Q E h => by
    obtain ⟨_, rfl, _⟩ := h
    rfl) (fun _ _ _ _ _ _ us hl => match us, hl with | [_], _ => rfl)
   (fun cdv A outer s H E hr => by
    have nd := sc_checked_bit.nd
    have ho := out_def (cxD_takes (P := P) (w := w) (K := K) (mg := mg) (base := base) (N := N_checked_bit) (qual := "checked_bit") (st := s_checked_bit) (f := He.fAd K ("checked_bit", none)) (cdv := cdv) (A := A) (outer := outer) (s := s) (H := H) (E := E))
    have tk := cxD_takes (P := P) (w := w) (K := K) (mg := mg) (base := base) (N := N_checked_bit) (qual := "checked_bit") (st := s_checked_bit) (f := He.fAd K ("checked_bit", none)) (cdv := cdv) (A := A) (outer := outer) (s := s) (H := H) (E := E)
    have pz := cxD_passes (P := P) (w := w) (K := K) (mg := mg) (base := base) (N := N_checked_bit) (qual := "checked_bit") (st := s_checked_bit) (f := He.fAd K ("checked_bit", none)) (cdv := cdv) (A := A) (outer := outer) (s := s) (H := H) (E := E)
    exact pss_cons (ps_if (pt_not (pt_tru (pe_fun (cb_is_bit KX G c) (hr.mono (by decide)) (He.glo_ok KX G (c.fact 26 rfl)) ho (pa_cons (pv 0) (pa_nil))))) (pss_one (ps_rz (exn_ok KX G (c.fact 27 rfl) (c.fact 28 rfl)) rfl tk)) (pss_nil))
       (pss_one (ps_ret (pv 0))))
   (fun vs H Q E h => by
    obtain ⟨_, rfl, h⟩ := h
    haveI : HasCls K "Span" := ⟨He.cls_ok (c.fact 0 rfl)⟩
    haveI : HasNo K "Span" "low" := ⟨He.noat_ok (c.fact 1 rfl)⟩
    haveI : HasNo K "Span" "width" := ⟨He.noat_ok (c.fact 2 rfl)⟩
    haveI : HasNo K "Span" "size" := ⟨He.noat_ok (c.fact 3 rfl)⟩
    haveI : HasCls K "Seeker" := ⟨He.cls_ok (c.fact 4 rfl)⟩
    haveI : HasNo K "Seeker" "row" := ⟨He.noat_ok (c.fact 5 rfl)⟩
    haveI : HasNo K "Seeker" "span" := ⟨He.noat_ok (c.fact 6 rfl)⟩
    haveI : HasNo K "Seeker" "number" := ⟨He.noat_ok (c.fact 7 rfl)⟩
    haveI : HasNo K "Seeker" "taken" := ⟨He.noat_ok (c.fact 8 rfl)⟩
    haveI : HasExc K "NoBytes" := hexc_ok (c.ext 0 rfl)
    haveI : HasExm K "NoBytes" "ForetellError" true := hexm_ok (c.fact 9 rfl)
    haveI : HasKitT K "NoBytes" "ValueError" true := kitT_ok (c.ext 1 rfl)
    haveI : HasKit K "NoBytes" "NoChance" false := kit_ok (c.ext 2 rfl)
    haveI : HasKit K "NoBytes" "NoBit" false := kit_ok (c.ext 3 rfl)
    haveI : HasKit K "NoBytes" "NoBytes" true := kit_ok (c.ext 4 rfl)
    haveI : HasKit K "NoBytes" "NoMost" false := kit_ok (c.ext 5 rfl)
    haveI : HasKit K "NoBytes" "NoPress" false := kit_ok (c.ext 6 rfl)
    haveI : HasKit K "NoBytes" "NoText" false := kit_ok (c.ext 7 rfl)
    haveI : HasExc K "NoBit" := hexc_ok (c.ext 8 rfl)
    haveI : HasExm K "NoBit" "ForetellError" true := hexm_ok (c.fact 10 rfl)
    haveI : HasKitT K "NoBit" "ValueError" true := kitT_ok (c.ext 9 rfl)
    haveI : HasKit K "NoBit" "NoChance" false := kit_ok (c.ext 10 rfl)
    haveI : HasKit K "NoBit" "NoBit" true := kit_ok (c.ext 11 rfl)
    haveI : HasKit K "NoBit" "NoBytes" false := kit_ok (c.ext 12 rfl)
    haveI : HasKit K "NoBit" "NoMost" false := kit_ok (c.ext 13 rfl)
    haveI : HasKit K "NoBit" "NoPress" false := kit_ok (c.ext 14 rfl)
    haveI : HasKit K "NoBit" "NoText" false := kit_ok (c.ext 15 rfl)
    haveI : HasExc K "NoChance" := hexc_ok (c.ext 16 rfl)
    haveI : HasExm K "NoChance" "ForetellError" true := hexm_ok (c.fact 11 rfl)
    haveI : HasKitT K "NoChance" "ValueError" true := kitT_ok (c.ext 17 rfl)
    haveI : HasKit K "NoChance" "NoChance" true := kit_ok (c.ext 18 rfl)
    haveI : HasKit K "NoChance" "NoBit" false := kit_ok (c.ext 19 rfl)
    haveI : HasKit K "NoChance" "NoBytes" false := kit_ok (c.ext 20 rfl)
    haveI : HasKit K "NoChance" "NoMost" false := kit_ok (c.ext 21 rfl)
    haveI : HasKit K "NoChance" "NoPress" false := kit_ok (c.ext 22 rfl)
    haveI : HasKit K "NoChance" "NoText" false := kit_ok (c.ext 23 rfl)
    exact pure_checked_bit K h)
theorem cb_checked_chance (KX : K.In h) (G : h.Ns mainGlobals mg) (c : SaysX fa fn xf K) : Cb P w K mg base 3 (He.fAd K ("checked_chance", none)) ["thing"] [] (sp_checked_chance K) :=
  cb_of (T := t_checked_chance K) (c.def_ 7 rfl) sc_checked_chance (fun vs H Q E h => by
    obtain ⟨_, rfl, _⟩ := h
    rfl) (fun _ _ _ _ _ _ us hl => match us, hl with | [_], _ => rfl)
   (fun cdv A outer s H E hr => by
    have nd := sc_checked_chance.nd
    have ho := out_def (cxD_takes (P := P) (w := w) (K := K) (mg := mg) (base := base) (N := N_checked_chance) (qual := "checked_chance") (st := s_checked_chance) (f := He.fAd K ("checked_chance", none)) (cdv := cdv) (A := A) (outer := outer) (s := s) (H := H) (E := E))
    have tk := cxD_takes (P := P) (w := w) (K := K) (mg := mg) (base := base) (N := N_checked_chance) (qual := "checked_chance") (st := s_checked_chance) (f := He.fAd K ("checked_chance", none)) (cdv := cdv) (A := A) (outer := outer) (s := s) (H := H) (E := E)
    have pz := cxD_passes (P := P) (w := w) (K := K) (mg := mg) (base := base) (N := N_checked_chance) (qual := "checked_chance") (st := s_checked_chance) (f := He.fAd K ("checked_chance", none)) (cdv := cdv) (A := A) (outer := outer) (s := s) (H := H) (E := E)
    exact pss_cons (ps_if (pt_not (pt_tru (pe_fun (cb_is_chance KX G c) (hr.mono (by decide)) (He.glo_ok KX G (c.fact 29 rfl)) ho (pa_cons (pv 0) (pa_nil))))) (pss_one (ps_rz (exn_ok KX G (c.fact 30 rfl) (c.fact 31 rfl)) rfl tk)) (pss_nil))
       (pss_one (ps_ret (pv 0))))
   (fun vs H Q E h => by
    obtain ⟨_, rfl, h⟩ := h
    haveI : HasCls K "Span" := ⟨He.cls_ok (c.fact 0 rfl)⟩
    haveI : HasNo K "Span" "low" := ⟨He.noat_ok (c.fact 1 rfl)⟩
    haveI : HasNo K "Span" "width" := ⟨He.noat_ok (c.fact 2 rfl)⟩
    haveI : HasNo K "Span" "size" := ⟨He.noat_ok (c.fact 3 rfl)⟩
    haveI : HasCls K "Seeker" := ⟨He.cls_ok (c.fact 4 rfl)⟩
    haveI : HasNo K "Seeker" "row" := ⟨He.noat_ok (c.fact 5 rfl)⟩
    haveI : HasNo K "Seeker" "span" := ⟨He.noat_ok (c.fact 6 rfl)⟩
    haveI : HasNo K "Seeker" "number" := ⟨He.noat_ok (c.fact 7 rfl)⟩
    haveI : HasNo K "Seeker" "taken" := ⟨He.noat_ok (c.fact 8 rfl)⟩
    haveI : HasExc K "NoBytes" := hexc_ok (c.ext 0 rfl)
    haveI : HasExm K "NoBytes" "ForetellError" true := hexm_ok (c.fact 9 rfl)
    haveI : HasKitT K "NoBytes" "ValueError" true := kitT_ok (c.ext 1 rfl)
    haveI : HasKit K "NoBytes" "NoChance" false := kit_ok (c.ext 2 rfl)
    haveI : HasKit K "NoBytes" "NoBit" false := kit_ok (c.ext 3 rfl)
    haveI : HasKit K "NoBytes" "NoBytes" true := kit_ok (c.ext 4 rfl)
    haveI : HasKit K "NoBytes" "NoMost" false := kit_ok (c.ext 5 rfl)
    haveI : HasKit K "NoBytes" "NoPress" false := kit_ok (c.ext 6 rfl)
    haveI : HasKit K "NoBytes" "NoText" false := kit_ok (c.ext 7 rfl)
    haveI : HasExc K "NoBit" := hexc_ok (c.ext 8 rfl)
    haveI : HasExm K "NoBit" "ForetellError" true := hexm_ok (c.fact 10 rfl)
    haveI : HasKitT K "NoBit" "ValueError" true := kitT_ok (c.ext 9 rfl)
    haveI : HasKit K "NoBit" "NoChance" false := kit_ok (c.ext 10 rfl)
    haveI : HasKit K "NoBit" "NoBit" true := kit_ok (c.ext 11 rfl)
    haveI : HasKit K "NoBit" "NoBytes" false := kit_ok (c.ext 12 rfl)
    haveI : HasKit K "NoBit" "NoMost" false := kit_ok (c.ext 13 rfl)
    haveI : HasKit K "NoBit" "NoPress" false := kit_ok (c.ext 14 rfl)
    haveI : HasKit K "NoBit" "NoText" false := kit_ok (c.ext 15 rfl)
    haveI : HasExc K "NoChance" := hexc_ok (c.ext 16 rfl)
    haveI : HasExm K "NoChance" "ForetellError" true := hexm_ok (c.fact 11 rfl)
    haveI : HasKitT K "NoChance" "ValueError" true := kitT_ok (c.ext 17 rfl)
    haveI : HasKit K "NoChance" "NoChance" true := kit_ok (c.ext 18 rfl)
    haveI : HasKit K "NoChance" "NoBit" false := kit_ok (c.ext 19 rfl)
    haveI : HasKit K "NoChance" "NoBytes" false := kit_ok (c.ext 20 rfl)
    haveI : HasKit K "NoChance" "NoMost" false := kit_ok (c.ext 21 rfl)
    haveI : HasKit K "NoChance" "NoPress" false := kit_ok (c.ext 22 rfl)
    haveI : HasKit K "NoChance" "NoText" false := kit_ok (c.ext 23 rfl)
    exact pure_checked_chance K h)
theorem cb_checked_bytes (KX : K.In h) (G : h.Ns mainGlobals mg) (c : SaysX fa fn xf K) : Cb P w K mg base 4 (He.fAd K ("checked_bytes", none)) ["thing"] [] (sp_checked_bytes K) :=
  cb_of (T := t_checked_bytes K) (c.def_ 5 rfl) sc_checked_bytes (fun vs H Q E h => by
    obtain ⟨_, rfl, _⟩ := h
    rfl) (fun _ _ _ _ _ _ us hl => match us, hl with | [_], _ => rfl)
   (fun cdv A outer s H E hr => by
    have nd := sc_checked_bytes.nd
    have ho := out_def (cxD_takes (P := P) (w := w) (K := K) (mg := mg) (base := base) (N := N_checked_bytes) (qual := "checked_bytes") (st := s_checked_bytes) (f := He.fAd K ("checked_bytes", none)) (cdv := cdv) (A := A) (outer := outer) (s := s) (H := H) (E := E))
    have tk := cxD_takes (P := P) (w := w) (K := K) (mg := mg) (base := base) (N := N_checked_bytes) (qual := "checked_bytes") (st := s_checked_bytes) (f := He.fAd K ("checked_bytes", none)) (cdv := cdv) (A := A) (outer := outer) (s := s) (H := H) (E := E)
    have pz := cxD_passes (P := P) (w := w) (K := K) (mg := mg) (base := base) (N := N_checked_bytes) (qual := "checked_bytes") (st := s_checked_bytes) (f := He.fAd K ("checked_bytes", none)) (cdv := cdv) (A := A) (outer := outer) (s := s) (H := H) (E := E)
    exact pss_cons (ps_if (pt_not (pt_tru (pe_fun (cb_are_signs KX G c) (hr.mono (by decide)) (He.glo_ok KX G (c.fact 32 rfl)) ho (pa_cons (pv 0) (pa_cons (pe_gint (He.int_ok KX G (c.fact 33 rfl))) (pa_nil)))))) (pss_one (ps_rz (exn_ok KX G (c.fact 34 rfl) (c.fact 35 rfl)) rfl tk)) (pss_nil))
       (pss_one (ps_ret (pe_callTy c_list (by rfl) (He.free_ok KX G (c.fact 23 rfl)) (by decide +kernel) (pa_cons (pv 0) (pa_nil))))))
   (fun vs H Q E h => by
    obtain ⟨_, rfl, h⟩ := h
    haveI : HasCls K "Span" := ⟨He.cls_ok (c.fact 0 rfl)⟩
    haveI : HasNo K "Span" "low" := ⟨He.noat_ok (c.fact 1 rfl)⟩
    haveI : HasNo K "Span" "width" := ⟨He.noat_ok (c.fact 2 rfl)⟩
    haveI : HasNo K "Span" "size" := ⟨He.noat_ok (c.fact 3 rfl)⟩
    haveI : HasCls K "Seeker" := ⟨He.cls_ok (c.fact 4 rfl)⟩
    haveI : HasNo K "Seeker" "row" := ⟨He.noat_ok (c.fact 5 rfl)⟩
    haveI : HasNo K "Seeker" "span" := ⟨He.noat_ok (c.fact 6 rfl)⟩
    haveI : HasNo K "Seeker" "number" := ⟨He.noat_ok (c.fact 7 rfl)⟩
    haveI : HasNo K "Seeker" "taken" := ⟨He.noat_ok (c.fact 8 rfl)⟩
    haveI : HasExc K "NoBytes" := hexc_ok (c.ext 0 rfl)
    haveI : HasExm K "NoBytes" "ForetellError" true := hexm_ok (c.fact 9 rfl)
    haveI : HasKitT K "NoBytes" "ValueError" true := kitT_ok (c.ext 1 rfl)
    haveI : HasKit K "NoBytes" "NoChance" false := kit_ok (c.ext 2 rfl)
    haveI : HasKit K "NoBytes" "NoBit" false := kit_ok (c.ext 3 rfl)
    haveI : HasKit K "NoBytes" "NoBytes" true := kit_ok (c.ext 4 rfl)
    haveI : HasKit K "NoBytes" "NoMost" false := kit_ok (c.ext 5 rfl)
    haveI : HasKit K "NoBytes" "NoPress" false := kit_ok (c.ext 6 rfl)
    haveI : HasKit K "NoBytes" "NoText" false := kit_ok (c.ext 7 rfl)
    haveI : HasExc K "NoBit" := hexc_ok (c.ext 8 rfl)
    haveI : HasExm K "NoBit" "ForetellError" true := hexm_ok (c.fact 10 rfl)
    haveI : HasKitT K "NoBit" "ValueError" true := kitT_ok (c.ext 9 rfl)
    haveI : HasKit K "NoBit" "NoChance" false := kit_ok (c.ext 10 rfl)
    haveI : HasKit K "NoBit" "NoBit" true := kit_ok (c.ext 11 rfl)
    haveI : HasKit K "NoBit" "NoBytes" false := kit_ok (c.ext 12 rfl)
    haveI : HasKit K "NoBit" "NoMost" false := kit_ok (c.ext 13 rfl)
    haveI : HasKit K "NoBit" "NoPress" false := kit_ok (c.ext 14 rfl)
    haveI : HasKit K "NoBit" "NoText" false := kit_ok (c.ext 15 rfl)
    haveI : HasExc K "NoChance" := hexc_ok (c.ext 16 rfl)
    haveI : HasExm K "NoChance" "ForetellError" true := hexm_ok (c.fact 11 rfl)
    haveI : HasKitT K "NoChance" "ValueError" true := kitT_ok (c.ext 17 rfl)
    haveI : HasKit K "NoChance" "NoChance" true := kit_ok (c.ext 18 rfl)
    haveI : HasKit K "NoChance" "NoBit" false := kit_ok (c.ext 19 rfl)
    haveI : HasKit K "NoChance" "NoBytes" false := kit_ok (c.ext 20 rfl)
    haveI : HasKit K "NoChance" "NoMost" false := kit_ok (c.ext 21 rfl)
    haveI : HasKit K "NoChance" "NoPress" false := kit_ok (c.ext 22 rfl)
    haveI : HasKit K "NoChance" "NoText" false := kit_ok (c.ext 23 rfl)
    exact pure_checked_bytes K h)
theorem cb_Span_narrow (KX : K.In h) (G : h.Ns mainGlobals mg) (c : SaysX fa fn xf K) : Cb P w K mg base 4 (He.fAd K ("Span", some "narrow")) ["self", "chance", "bit"] [] (sp_Span_narrow K) :=
  cb_of (T := t_Span_narrow K) (c.def_ 11 rfl) sc_Span_narrow (fun vs H Q E h => by
    obtain ⟨_, _, _, rfl, _⟩ := h
    rfl) (fun _ _ _ _ _ _ us hl => match us, hl with | [_, _, _], _ => rfl)
   (fun cdv A outer s H E hr => by
    have nd := sc_Span_narrow.nd
    have ho := out_def (cxD_takes (P := P) (w := w) (K := K) (mg := mg) (base := base) (N := N_Span_narrow) (qual := "Span.narrow") (st := s_Span_narrow) (f := He.fAd K ("Span", some "narrow")) (cdv := cdv) (A := A) (outer := outer) (s := s) (H := H) (E := E))
    have tk := cxD_takes (P := P) (w := w) (K := K) (mg := mg) (base := base) (N := N_Span_narrow) (qual := "Span.narrow") (st := s_Span_narrow) (f := He.fAd K ("Span", some "narrow")) (cdv := cdv) (A := A) (outer := outer) (s := s) (H := H) (E := E)
    have pz := cxD_passes (P := P) (w := w) (K := K) (mg := mg) (base := base) (N := N_Span_narrow) (qual := "Span.narrow") (st := s_Span_narrow) (f := He.fAd K ("Span", some "narrow")) (cdv := cdv) (A := A) (outer := outer) (s := s) (H := H) (E := E)
    exact pss_cons (ps_set (i := 3) nd rfl (by first | exact Or.inl rfl | exact Or.inr rfl) (pe_fun (cb_checked_chance KX G c) (hr.mono (by decide)) (He.glo_ok KX G (c.fact 36 rfl)) ho (pa_cons (pv 1) (pa_nil))))
       (pss_cons (ps_set (i := 4) nd rfl (by first | exact Or.inl rfl | exact Or.inr rfl) (pe_fun (cb_checked_bit KX G c) (hr.mono (by decide)) (He.glo_ok KX G (c.fact 37 rfl)) ho (pa_cons (pv 2) (pa_nil))))
       (pss_cons (ps_set (i := 5) nd rfl (by first | exact Or.inl rfl | exact Or.inr rfl) (pe_op o_floor (pe_op o_times (pe_fld (pv 0) rfl) (pv 3)) (pe_gint (He.int_ok KX G (c.fact 20 rfl)))))
       (pss_cons (ps_if (pt_cmpR (o_same hr.units) (pv 4) (pe_int) (nomark _)) (pss_one (ps_fld (pv 0) (pv 5) rfl)) (pss_cons (ps_fldaug (pv 0) (pv 5) in_add)
       (pss_one (ps_fldaug (pv 0) (pv 5) in_sub))))
       (pss_one (ps_while pz (pt_cmpR o_lt (pe_fld (pv 0) rfl) (pe_gint (He.int_ok KX G (c.fact 38 rfl))) (nomark _)) (pss_cons (ps_fld (pv 0) (pe_op o_lsh (pe_fld (pv 0) rfl) (pe_int)) rfl)
       (pss_cons (ps_fld (pv 0) (pe_op o_lsh (pe_fld (pv 0) rfl) (pe_int)) rfl)
       (pss_one (ps_fldaug (pv 0) (pe_int) in_add))))))))))
   (fun vs H Q E h => by
    obtain ⟨_, _, _, rfl, h⟩ := h
    haveI : HasCls K "Span" := ⟨He.cls_ok (c.fact 0 rfl)⟩
    haveI : HasNo K "Span" "low" := ⟨He.noat_ok (c.fact 1 rfl)⟩
    haveI : HasNo K "Span" "width" := ⟨He.noat_ok (c.fact 2 rfl)⟩
    haveI : HasNo K "Span" "size" := ⟨He.noat_ok (c.fact 3 rfl)⟩
    haveI : HasCls K "Seeker" := ⟨He.cls_ok (c.fact 4 rfl)⟩
    haveI : HasNo K "Seeker" "row" := ⟨He.noat_ok (c.fact 5 rfl)⟩
    haveI : HasNo K "Seeker" "span" := ⟨He.noat_ok (c.fact 6 rfl)⟩
    haveI : HasNo K "Seeker" "number" := ⟨He.noat_ok (c.fact 7 rfl)⟩
    haveI : HasNo K "Seeker" "taken" := ⟨He.noat_ok (c.fact 8 rfl)⟩
    haveI : HasExc K "NoBytes" := hexc_ok (c.ext 0 rfl)
    haveI : HasExm K "NoBytes" "ForetellError" true := hexm_ok (c.fact 9 rfl)
    haveI : HasKitT K "NoBytes" "ValueError" true := kitT_ok (c.ext 1 rfl)
    haveI : HasKit K "NoBytes" "NoChance" false := kit_ok (c.ext 2 rfl)
    haveI : HasKit K "NoBytes" "NoBit" false := kit_ok (c.ext 3 rfl)
    haveI : HasKit K "NoBytes" "NoBytes" true := kit_ok (c.ext 4 rfl)
    haveI : HasKit K "NoBytes" "NoMost" false := kit_ok (c.ext 5 rfl)
    haveI : HasKit K "NoBytes" "NoPress" false := kit_ok (c.ext 6 rfl)
    haveI : HasKit K "NoBytes" "NoText" false := kit_ok (c.ext 7 rfl)
    haveI : HasExc K "NoBit" := hexc_ok (c.ext 8 rfl)
    haveI : HasExm K "NoBit" "ForetellError" true := hexm_ok (c.fact 10 rfl)
    haveI : HasKitT K "NoBit" "ValueError" true := kitT_ok (c.ext 9 rfl)
    haveI : HasKit K "NoBit" "NoChance" false := kit_ok (c.ext 10 rfl)
    haveI : HasKit K "NoBit" "NoBit" true := kit_ok (c.ext 11 rfl)
    haveI : HasKit K "NoBit" "NoBytes" false := kit_ok (c.ext 12 rfl)
    haveI : HasKit K "NoBit" "NoMost" false := kit_ok (c.ext 13 rfl)
    haveI : HasKit K "NoBit" "NoPress" false := kit_ok (c.ext 14 rfl)
    haveI : HasKit K "NoBit" "NoText" false := kit_ok (c.ext 15 rfl)
    haveI : HasExc K "NoChance" := hexc_ok (c.ext 16 rfl)
    haveI : HasExm K "NoChance" "ForetellError" true := hexm_ok (c.fact 11 rfl)
    haveI : HasKitT K "NoChance" "ValueError" true := kitT_ok (c.ext 17 rfl)
    haveI : HasKit K "NoChance" "NoChance" true := kit_ok (c.ext 18 rfl)
    haveI : HasKit K "NoChance" "NoBit" false := kit_ok (c.ext 19 rfl)
    haveI : HasKit K "NoChance" "NoBytes" false := kit_ok (c.ext 20 rfl)
    haveI : HasKit K "NoChance" "NoMost" false := kit_ok (c.ext 21 rfl)
    haveI : HasKit K "NoChance" "NoPress" false := kit_ok (c.ext 22 rfl)
    haveI : HasKit K "NoChance" "NoText" false := kit_ok (c.ext 23 rfl)
    exact pure_Span_narrow K h)
theorem cb_Seeker_init (KX : K.In h) (G : h.Ns mainGlobals mg) (c : SaysX fa fn xf K) : Cb P w K mg base 5 (He.fAd K ("Seeker", some "__init__")) ["self", "data"] [] (sp_Seeker_init K) :=
  cb_of (T := t_Seeker_init K) (c.def_ 14 rfl) sc_Seeker_init (fun vs H Q E h => by
    obtain ⟨_, _, rfl, _⟩ := h
    rfl) (fun _ _ _ _ _ _ us hl => match us, hl with | [_, _], _ => rfl)
   (fun cdv A outer s H E hr => by
    have nd := sc_Seeker_init.nd
    have ho := out_def (cxD_takes (P := P) (w := w) (K := K) (mg := mg) (base := base) (N := N_Seeker_init) (qual := "Seeker.__init__") (st := s_Seeker_init) (f := He.fAd K ("Seeker", some "__init__")) (cdv := cdv) (A := A) (outer := outer) (s := s) (H := H) (E := E))
    have tk := cxD_takes (P := P) (w := w) (K := K) (mg := mg) (base := base) (N := N_Seeker_init) (qual := "Seeker.__init__") (st := s_Seeker_init) (f := He.fAd K ("Seeker", some "__init__")) (cdv := cdv) (A := A) (outer := outer) (s := s) (H := H) (E := E)
    have pz := cxD_passes (P := P) (w := w) (K := K) (mg := mg) (base := base) (N := N_Seeker_init) (qual := "Seeker.__init__") (st := s_Seeker_init) (f := He.fAd K ("Seeker", some "__init__")) (cdv := cdv) (A := A) (outer := outer) (s := s) (H := H) (E := E)
    exact pss_cons (ps_fld (pv 0) (pe_fun (cb_checked_bytes KX G c) (hr.mono (by decide)) (He.glo_ok KX G (c.fact 39 rfl)) ho (pa_cons (pv 1) (pa_nil))) rfl)
       (pss_cons (ps_fld (pv 0) (pe_new0 (He.mkr_ok (c.fact 42 rfl)) (cb_Span_init KX G c) (hr.mono (by decide)) (He.glo_ok KX G (c.fact 40 rfl)) ho) rfl)
       (pss_cons (ps_fld (pv 0) (pe_int) rfl)
       (pss_cons (ps_fld (pv 0) (pe_int) rfl)
       (pss_one (ps_expr (pe_mth0 (k := 4) (pv 0) (mo_one (He.cls_ok (c.fact 4 rfl)) (He.meth_ok (c.fact 41 rfl)) (cb_Seeker_take KX G c) (by decide)) hr ho)))))))
   (fun vs H Q E h => by
    obtain ⟨_, _, rfl, h⟩ := h
    haveI : HasCls K "Span" := ⟨He.cls_ok (c.fact 0 rfl)⟩
    haveI : HasNo K "Span" "low" := ⟨He.noat_ok (c.fact 1 rfl)⟩
    haveI : HasNo K "Span" "width" := ⟨He.noat_ok (c.fact 2 rfl)⟩
    haveI : HasNo K "Span" "size" := ⟨He.noat_ok (c.fact 3 rfl)⟩
    haveI : HasCls K "Seeker" := ⟨He.cls_ok (c.fact 4 rfl)⟩
    haveI : HasNo K "Seeker" "row" := ⟨He.noat_ok (c.fact 5 rfl)⟩
    haveI : HasNo K "Seeker" "span" := ⟨He.noat_ok (c.fact 6 rfl)⟩
    haveI : HasNo K "Seeker" "number" := ⟨He.noat_ok (c.fact 7 rfl)⟩
    haveI : HasNo K "Seeker" "taken" := ⟨He.noat_ok (c.fact 8 rfl)⟩
    haveI : HasExc K "NoBytes" := hexc_ok (c.ext 0 rfl)
    haveI : HasExm K "NoBytes" "ForetellError" true := hexm_ok (c.fact 9 rfl)
    haveI : HasKitT K "NoBytes" "ValueError" true := kitT_ok (c.ext 1 rfl)
    haveI : HasKit K "NoBytes" "NoChance" false := kit_ok (c.ext 2 rfl)
    haveI : HasKit K "NoBytes" "NoBit" false := kit_ok (c.ext 3 rfl)
    haveI : HasKit K "NoBytes" "NoBytes" true := kit_ok (c.ext 4 rfl)
    haveI : HasKit K "NoBytes" "NoMost" false := kit_ok (c.ext 5 rfl)
    haveI : HasKit K "NoBytes" "NoPress" false := kit_ok (c.ext 6 rfl)
    haveI : HasKit K "NoBytes" "NoText" false := kit_ok (c.ext 7 rfl)
    haveI : HasExc K "NoBit" := hexc_ok (c.ext 8 rfl)
    haveI : HasExm K "NoBit" "ForetellError" true := hexm_ok (c.fact 10 rfl)
    haveI : HasKitT K "NoBit" "ValueError" true := kitT_ok (c.ext 9 rfl)
    haveI : HasKit K "NoBit" "NoChance" false := kit_ok (c.ext 10 rfl)
    haveI : HasKit K "NoBit" "NoBit" true := kit_ok (c.ext 11 rfl)
    haveI : HasKit K "NoBit" "NoBytes" false := kit_ok (c.ext 12 rfl)
    haveI : HasKit K "NoBit" "NoMost" false := kit_ok (c.ext 13 rfl)
    haveI : HasKit K "NoBit" "NoPress" false := kit_ok (c.ext 14 rfl)
    haveI : HasKit K "NoBit" "NoText" false := kit_ok (c.ext 15 rfl)
    haveI : HasExc K "NoChance" := hexc_ok (c.ext 16 rfl)
    haveI : HasExm K "NoChance" "ForetellError" true := hexm_ok (c.fact 11 rfl)
    haveI : HasKitT K "NoChance" "ValueError" true := kitT_ok (c.ext 17 rfl)
    haveI : HasKit K "NoChance" "NoChance" true := kit_ok (c.ext 18 rfl)
    haveI : HasKit K "NoChance" "NoBit" false := kit_ok (c.ext 19 rfl)
    haveI : HasKit K "NoChance" "NoBytes" false := kit_ok (c.ext 20 rfl)
    haveI : HasKit K "NoChance" "NoMost" false := kit_ok (c.ext 21 rfl)
    haveI : HasKit K "NoChance" "NoPress" false := kit_ok (c.ext 22 rfl)
    haveI : HasKit K "NoChance" "NoText" false := kit_ok (c.ext 23 rfl)
    exact pure_Seeker_init K h)
theorem cb_Seeker_bit (KX : K.In h) (G : h.Ns mainGlobals mg) (c : SaysX fa fn xf K) : Cb P w K mg base 5 (He.fAd K ("Seeker", some "bit")) ["self", "chance"] [] (sp_Seeker_bit K) :=
  cb_of (T := t_Seeker_bit K) (c.def_ 16 rfl) sc_Seeker_bit (fun vs H Q E h => by
    obtain ⟨_, _, rfl, _⟩ := h
    rfl) (fun _ _ _ _ _ _ us hl => match us, hl with | [_, _], _ => rfl)
   (fun cdv A outer s H E hr => by
    have nd := sc_Seeker_bit.nd
    have ho := out_def (cxD_takes (P := P) (w := w) (K := K) (mg := mg) (base := base) (N := N_Seeker_bit) (qual := "Seeker.bit") (st := s_Seeker_bit) (f := He.fAd K ("Seeker", some "bit")) (cdv := cdv) (A := A) (outer := outer) (s := s) (H := H) (E := E))
    have tk := cxD_takes (P := P) (w := w) (K := K) (mg := mg) (base := base) (N := N_Seeker_bit) (qual := "Seeker.bit") (st := s_Seeker_bit) (f := He.fAd K ("Seeker", some "bit")) (cdv := cdv) (A := A) (outer := outer) (s := s) (H := H) (E := E)
    have pz := cxD_passes (P := P) (w := w) (K := K) (mg := mg) (base := base) (N := N_Seeker_bit) (qual := "Seeker.bit") (st := s_Seeker_bit) (f := He.fAd K ("Seeker", some "bit")) (cdv := cdv) (A := A) (outer := outer) (s := s) (H := H) (E := E)
    exact pss_cons (ps_set (i := 2) nd rfl (by first | exact Or.inl rfl | exact Or.inr rfl) (pe_fun (cb_checked_chance KX G c) (hr.mono (by decide)) (He.glo_ok KX G (c.fact 36 rfl)) ho (pa_cons (pv 1) (pa_nil))))
       (pss_cons (ps_asg (pe_mth0 (k := 4) (pe_fld (pv 0) rfl) (mo_one (He.cls_ok (c.fact 0 rfl)) (He.meth_ok (c.fact 22 rfl)) (cb_Span_ends KX G c) (by decide)) hr ho) (pg_tup rfl (pgs_cons (pg_name (i := 3) nd rfl (by first | exact Or.inl rfl | exact Or.inr rfl)) (pgs_cons (pg_name (i := 4) nd rfl (by first | exact Or.inl rfl | exact Or.inr rfl)) (pgs_cons (pg_name (i := 5) nd rfl (by first | exact Or.inl rfl | exact Or.inr rfl)) (pgs_nil))))))
       (pss_cons (ps_set (i := 6) nd rfl (by first | exact Or.inl rfl | exact Or.inr rfl) (pe_callTy c_int (by rfl) (He.free_ok KX G (c.fact 13 rfl)) (by decide +kernel) (pa_cons (pe_cmpR o_lt (pe_fld (pv 0) rfl) (pe_op o_plus (pv 3) (pe_op o_floor (pe_op o_times (pv 4) (pv 2)) (pe_gint (He.int_ok KX G (c.fact 20 rfl))))) (nomark _)) (pa_nil))))
       (pss_cons (ps_expr (pe_mth (k := 4) (pe_fld (pv 0) rfl) (mo_one (He.cls_ok (c.fact 0 rfl)) (He.meth_ok (c.fact 43 rfl)) (cb_Span_narrow KX G c) (by decide)) hr ho (pa_cons (pv 2) (pa_cons (pv 6) (pa_nil)))))
       (pss_cons (ps_expr (pe_mth0 (k := 4) (pv 0) (mo_one (He.cls_ok (c.fact 4 rfl)) (He.meth_ok (c.fact 41 rfl)) (cb_Seeker_take KX G c) (by decide)) hr ho))
       (pss_one (ps_ret (pv 6))))))))
   (fun vs H Q E h => by
    obtain ⟨_, _, rfl, h⟩ := h
    haveI : HasCls K "Span" := ⟨He.cls_ok (c.fact 0 rfl)⟩
    haveI : HasNo K "Span" "low" := ⟨He.noat_ok (c.fact 1 rfl)⟩
    haveI : HasNo K "Span" "width" := ⟨He.noat_ok (c.fact 2 rfl)⟩
    haveI : HasNo K "Span" "size" := ⟨He.noat_ok (c.fact 3 rfl)⟩
    haveI : HasCls K "Seeker" := ⟨He.cls_ok (c.fact 4 rfl)⟩
    haveI : HasNo K "Seeker" "row" := ⟨He.noat_ok (c.fact 5 rfl)⟩
    haveI : HasNo K "Seeker" "span" := ⟨He.noat_ok (c.fact 6 rfl)⟩
    haveI : HasNo K "Seeker" "number" := ⟨He.noat_ok (c.fact 7 rfl)⟩
    haveI : HasNo K "Seeker" "taken" := ⟨He.noat_ok (c.fact 8 rfl)⟩
    haveI : HasExc K "NoBytes" := hexc_ok (c.ext 0 rfl)
    haveI : HasExm K "NoBytes" "ForetellError" true := hexm_ok (c.fact 9 rfl)
    haveI : HasKitT K "NoBytes" "ValueError" true := kitT_ok (c.ext 1 rfl)
    haveI : HasKit K "NoBytes" "NoChance" false := kit_ok (c.ext 2 rfl)
    haveI : HasKit K "NoBytes" "NoBit" false := kit_ok (c.ext 3 rfl)
    haveI : HasKit K "NoBytes" "NoBytes" true := kit_ok (c.ext 4 rfl)
    haveI : HasKit K "NoBytes" "NoMost" false := kit_ok (c.ext 5 rfl)
    haveI : HasKit K "NoBytes" "NoPress" false := kit_ok (c.ext 6 rfl)
    haveI : HasKit K "NoBytes" "NoText" false := kit_ok (c.ext 7 rfl)
    haveI : HasExc K "NoBit" := hexc_ok (c.ext 8 rfl)
    haveI : HasExm K "NoBit" "ForetellError" true := hexm_ok (c.fact 10 rfl)
    haveI : HasKitT K "NoBit" "ValueError" true := kitT_ok (c.ext 9 rfl)
    haveI : HasKit K "NoBit" "NoChance" false := kit_ok (c.ext 10 rfl)
    haveI : HasKit K "NoBit" "NoBit" true := kit_ok (c.ext 11 rfl)
    haveI : HasKit K "NoBit" "NoBytes" false := kit_ok (c.ext 12 rfl)
    haveI : HasKit K "NoBit" "NoMost" false := kit_ok (c.ext 13 rfl)
    haveI : HasKit K "NoBit" "NoPress" false := kit_ok (c.ext 14 rfl)
    haveI : HasKit K "NoBit" "NoText" false := kit_ok (c.ext 15 rfl)
    haveI : HasExc K "NoChance" := hexc_ok (c.ext 16 rfl)
    haveI : HasExm K "NoChance" "ForetellError" true := hexm_ok (c.fact 11 rfl)
    haveI : HasKitT K "NoChance" "ValueError" true := kitT_ok (c.ext 17 rfl)
    haveI : HasKit K "NoChance" "NoChance" true := kit_ok (c.ext 18 rfl)
    haveI : HasKit K "NoChance" "NoBit" false := kit_ok (c.ext 19 rfl)
    haveI : HasKit K "NoChance" "NoBytes" false := kit_ok (c.ext 20 rfl)
    haveI : HasKit K "NoChance" "NoMost" false := kit_ok (c.ext 21 rfl)
    haveI : HasKit K "NoChance" "NoPress" false := kit_ok (c.ext 22 rfl)
    haveI : HasKit K "NoChance" "NoText" false := kit_ok (c.ext 23 rfl)
    exact pure_Seeker_bit K h)
theorem cb_Lkinds (KX : K.In h) (G : h.Ns mainGlobals mg) (c : SaysX fa fn xf K) : Cb P w K mg base 7 (He.fAd K ("_law_kinds", none)) ["_law_way", "_law_thing", "_law_chance", "_law_bit"] [] (sp_Lkinds K) :=
  cb_of (T := t_Lkinds K) (c.def_ 20 rfl) sc_Lkinds (fun vs H Q E h => by
    obtain ⟨_, _, _, _, rfl, _⟩ := h
    rfl) (fun _ _ _ _ _ _ us hl => match us, hl with | [_, _, _, _], _ => rfl)
   (fun cdv A outer s H E hr => by
    have nd := sc_Lkinds.nd
    have ho := out_def (cxD_takes (P := P) (w := w) (K := K) (mg := mg) (base := base) (N := N_Lkinds) (qual := "_law_kinds") (st := s_Lkinds) (f := He.fAd K ("_law_kinds", none)) (cdv := cdv) (A := A) (outer := outer) (s := s) (H := H) (E := E))
    have tk := cxD_takes (P := P) (w := w) (K := K) (mg := mg) (base := base) (N := N_Lkinds) (qual := "_law_kinds") (st := s_Lkinds) (f := He.fAd K ("_law_kinds", none)) (cdv := cdv) (A := A) (outer := outer) (s := s) (H := H) (E := E)
    have pz := cxD_passes (P := P) (w := w) (K := K) (mg := mg) (base := base) (N := N_Lkinds) (qual := "_law_kinds") (st := s_Lkinds) (f := He.fAd K ("_law_kinds", none)) (cdv := cdv) (A := A) (outer := outer) (s := s) (H := H) (E := E)
    exact pss_cons (ps_set (i := 4) nd rfl (by first | exact Or.inl rfl | exact Or.inr rfl) (pe_lst (pa_nil)))
       (pss_cons (ps_tryX rfl rfl nd (i := 5) rfl rfl ⟨rfl, by decide, .inl (He.glo_ok KX G (c.fact 45 rfl))⟩ tk (fun W1 pn1 xe1 tk1 pz => pss_one (ps_if (pt_cmpR (o_same hr.units) (pv 0) (pe_int) (nomark _)) (pss_one (ps_expr (pe_mth (k := 6) (pv 1) (mo_one (He.cls_ok (c.fact 0 rfl)) (He.meth_ok (c.fact 43 rfl)) (cb_Span_narrow KX G c) (by decide)) hr (out_try tk1) (pa_cons (pv 2) (pa_cons (pv 3) (pa_nil)))))) (pss_one (ps_if (pt_cmpR (o_same hr.units) (pv 0) (pe_int) (nomark _)) (pss_one (ps_expr (pe_mth (k := 6) (pv 1) (mo_one (He.cls_ok (c.fact 4 rfl)) (He.meth_ok (c.fact 50 rfl)) (cb_Seeker_bit KX G c) (by decide)) hr (out_try tk1) (pa_cons (pv 2) (pa_nil))))) (pss_one (ps_expr (pe_new (He.mkr_ok (c.fact 51 rfl)) (cb_Seeker_init KX G c) (hr.mono (by decide)) (He.glo_ok KX G (c.fact 46 rfl)) (out_try tk1) (pa_cons (pv 1) (pa_nil))))))))) (fun ea1 oe1 eD1 pn1 hz1 hf1 eC1 => pss_one (ps_set (i := 4) nd rfl (by first | exact Or.inl rfl | exact Or.inr rfl) (pe_lst (pa_cons (pe_callB (c_isx eC1 hz1 hf1) (by rfl) (He.free_ok KX G (c.fact 12 rfl)) (by decide +kernel) (pa_cons (pv 5) (pa_cons (pe_gref (He.glo_ok KX G (c.fact 30 rfl))) (pa_nil)))) (pa_cons (pe_callB (c_isx eC1 hz1 hf1) (by rfl) (He.free_ok KX G (c.fact 12 rfl)) (by decide +kernel) (pa_cons (pv 5) (pa_cons (pe_gref (He.glo_ok KX G (c.fact 27 rfl))) (pa_nil)))) (pa_cons (pe_callB (c_isx eC1 hz1 hf1) (by rfl) (He.free_ok KX G (c.fact 12 rfl)) (by decide +kernel) (pa_cons (pv 5) (pa_cons (pe_gref (He.glo_ok KX G (c.fact 34 rfl))) (pa_nil)))) (pa_cons (pe_callB (c_isx eC1 hz1 hf1) (by rfl) (He.free_ok KX G (c.fact 12 rfl)) (by decide +kernel) (pa_cons (pv 5) (pa_cons (pe_gty (He.free_ok KX G (c.fact 44 rfl)) (by decide +kernel)) (pa_nil)))) (pa_cons (pe_callB (c_isx eC1 hz1 hf1) (by rfl) (He.free_ok KX G (c.fact 12 rfl)) (by decide +kernel) (pa_cons (pv 5) (pa_cons (pe_tup (pa_cons (pe_gref (He.glo_ok KX G (c.fact 47 rfl))) (pa_cons (pe_gref (He.glo_ok KX G (c.fact 48 rfl))) (pa_cons (pe_gref (He.glo_ok KX G (c.fact 49 rfl))) (pa_nil))))) (pa_nil)))) (pa_nil))))))))))
       (pss_one (ps_ret (pv 4)))))
   (fun vs H Q E h => by
    obtain ⟨_, _, _, _, rfl, h⟩ := h
    haveI : HasCls K "Span" := ⟨He.cls_ok (c.fact 0 rfl)⟩
    haveI : HasNo K "Span" "low" := ⟨He.noat_ok (c.fact 1 rfl)⟩
    haveI : HasNo K "Span" "width" := ⟨He.noat_ok (c.fact 2 rfl)⟩
    haveI : HasNo K "Span" "size" := ⟨He.noat_ok (c.fact 3 rfl)⟩
    haveI : HasCls K "Seeker" := ⟨He.cls_ok (c.fact 4 rfl)⟩
    haveI : HasNo K "Seeker" "row" := ⟨He.noat_ok (c.fact 5 rfl)⟩
    haveI : HasNo K "Seeker" "span" := ⟨He.noat_ok (c.fact 6 rfl)⟩
    haveI : HasNo K "Seeker" "number" := ⟨He.noat_ok (c.fact 7 rfl)⟩
    haveI : HasNo K "Seeker" "taken" := ⟨He.noat_ok (c.fact 8 rfl)⟩
    haveI : HasExc K "NoBytes" := hexc_ok (c.ext 0 rfl)
    haveI : HasExm K "NoBytes" "ForetellError" true := hexm_ok (c.fact 9 rfl)
    haveI : HasKitT K "NoBytes" "ValueError" true := kitT_ok (c.ext 1 rfl)
    haveI : HasKit K "NoBytes" "NoChance" false := kit_ok (c.ext 2 rfl)
    haveI : HasKit K "NoBytes" "NoBit" false := kit_ok (c.ext 3 rfl)
    haveI : HasKit K "NoBytes" "NoBytes" true := kit_ok (c.ext 4 rfl)
    haveI : HasKit K "NoBytes" "NoMost" false := kit_ok (c.ext 5 rfl)
    haveI : HasKit K "NoBytes" "NoPress" false := kit_ok (c.ext 6 rfl)
    haveI : HasKit K "NoBytes" "NoText" false := kit_ok (c.ext 7 rfl)
    haveI : HasExc K "NoBit" := hexc_ok (c.ext 8 rfl)
    haveI : HasExm K "NoBit" "ForetellError" true := hexm_ok (c.fact 10 rfl)
    haveI : HasKitT K "NoBit" "ValueError" true := kitT_ok (c.ext 9 rfl)
    haveI : HasKit K "NoBit" "NoChance" false := kit_ok (c.ext 10 rfl)
    haveI : HasKit K "NoBit" "NoBit" true := kit_ok (c.ext 11 rfl)
    haveI : HasKit K "NoBit" "NoBytes" false := kit_ok (c.ext 12 rfl)
    haveI : HasKit K "NoBit" "NoMost" false := kit_ok (c.ext 13 rfl)
    haveI : HasKit K "NoBit" "NoPress" false := kit_ok (c.ext 14 rfl)
    haveI : HasKit K "NoBit" "NoText" false := kit_ok (c.ext 15 rfl)
    haveI : HasExc K "NoChance" := hexc_ok (c.ext 16 rfl)
    haveI : HasExm K "NoChance" "ForetellError" true := hexm_ok (c.fact 11 rfl)
    haveI : HasKitT K "NoChance" "ValueError" true := kitT_ok (c.ext 17 rfl)
    haveI : HasKit K "NoChance" "NoChance" true := kit_ok (c.ext 18 rfl)
    haveI : HasKit K "NoChance" "NoBit" false := kit_ok (c.ext 19 rfl)
    haveI : HasKit K "NoChance" "NoBytes" false := kit_ok (c.ext 20 rfl)
    haveI : HasKit K "NoChance" "NoMost" false := kit_ok (c.ext 21 rfl)
    haveI : HasKit K "NoChance" "NoPress" false := kit_ok (c.ext 22 rfl)
    haveI : HasKit K "NoChance" "NoText" false := kit_ok (c.ext 23 rfl)
    exact pure_Lkinds K h)
theorem ok_law (KX : K.In h) (G : h.Ns mainGlobals mg) (c : SaysX fa fn xf K) {fd : FuncData} (F : FunD K "law" "law" (defArgs s_law) (defBody s_law) (defScope s_law) [] [] (He.fAd K ("law", none)) fd) : FnOk P w K mg base (L2.CX P w) 8 (He.fAd K ("law", none)) fd ["_law_script"] (sp_law K) :=
  ok_of (T := t_law K) F sc_law (fun vs H Q E h => by
    obtain ⟨_, rfl, _⟩ := h
    rfl)
   (fun cdv A outer s H E hr => by
    have nd := sc_law.nd
    have ho := out_def (cxD_takes (P := P) (w := w) (K := K) (mg := mg) (base := base) (N := N_law) (qual := "law") (st := s_law) (f := He.fAd K ("law", none)) (cdv := cdv) (A := A) (outer := outer) (s := s) (H := H) (E := E))
    have tk := cxD_takes (P := P) (w := w) (K := K) (mg := mg) (base := base) (N := N_law) (qual := "law") (st := s_law) (f := He.fAd K ("law", none)) (cdv := cdv) (A := A) (outer := outer) (s := s) (H := H) (E := E)
    have pz := cxD_passes (P := P) (w := w) (K := K) (mg := mg) (base := base) (N := N_law) (qual := "law") (st := s_law) (f := He.fAd K ("law", none)) (cdv := cdv) (A := A) (outer := outer) (s := s) (H := H) (E := E)
    exact pss_cons (ps_set (i := 1) nd rfl (by first | exact Or.inl rfl | exact Or.inr rfl) (pe_new0 (He.mkr_ok (c.fact 42 rfl)) (cb_Span_init KX G c) (hr.mono (by decide)) (He.glo_ok KX G (c.fact 40 rfl)) ho))
       (pss_cons (ps_set (i := 2) nd rfl (by first | exact Or.inl rfl | exact Or.inr rfl) (pe_new (He.mkr_ok (c.fact 51 rfl)) (cb_Seeker_init KX G c) (hr.mono (by decide)) (He.glo_ok KX G (c.fact 46 rfl)) ho (pa_cons (pe_lc (own := [("_law_cell", 3)]) (g := gName 3) (tt := tYes) rfl nd (pi_list (pe_slice sl_list (pv 0) (po_some (pe_int)) (po_some (pe_int)))) (blkOk_by (N := N_law) (sc := defScope s_law) (by decide +kernel)) (fun _ _ _ _ _ => pg_name (i := 3) nd rfl (by first | exact Or.inl rfl | exact Or.inr rfl)) (fun _ _ _ _ _ => pts_nil) (fun _ _ _ _ _ => pe_op o_rest (pv 3) (pe_int))) (pa_nil))))
       (pss_cons (ps_for pz rfl (pi_list (pe_slice sl_list (pv 0) (po_some (pe_int)) (po_some (pe_int)))) (pg_name (i := 3) nd rfl (by first | exact Or.inl rfl | exact Or.inr rfl)) (pss_cons (ps_asg (pe_fun (cb_Lstep KX G c) (hr.mono (by decide)) (He.glo_ok KX G (c.fact 52 rfl)) ho (pa_cons (pv 3) (pa_nil))) (pg_tup rfl (pgs_cons (pg_name (i := 4) nd rfl (by first | exact Or.inl rfl | exact Or.inr rfl)) (pgs_cons (pg_name (i := 5) nd rfl (by first | exact Or.inl rfl | exact Or.inr rfl)) (pgs_nil)))))
       (pss_cons (ps_expr (pe_mth (k := 7) (pv 1) (mo_one (He.cls_ok (c.fact 0 rfl)) (He.meth_ok (c.fact 43 rfl)) (cb_Span_narrow KX G c) (by decide)) hr ho (pa_cons (pv 4) (pa_cons (pv 5) (pa_nil)))))
       (pss_one (ps_expr (pe_mth (k := 7) (pv 2) (mo_one (He.cls_ok (c.fact 4 rfl)) (He.meth_ok (c.fact 50 rfl)) (cb_Seeker_bit KX G c) (by decide)) hr ho (pa_cons (pv 4) (pa_nil))))))))
       (pss_cons (ps_set (i := 6) nd rfl (by first | exact Or.inl rfl | exact Or.inr rfl) (pe_lst (pa_cons (pe_int) (pa_cons (pe_int) (pa_cons (pe_int) (pa_cons (pe_int) (pa_cons (pe_un o_neg (pe_int)) (pa_cons (pe_un o_neg (pe_int)) (pa_cons (pe_int) (pa_cons (pe_op o_pow (pe_int) (pe_int)) (pa_cons (pe_bl) (pa_cons (pe_non) (pa_cons (pe_str) (pa_cons (pe_lst (pa_cons (pe_int) (pa_nil))) (pa_cons (pe_tup (pa_cons (pe_int) (pa_nil))) (pa_cons (pe_dnewK) (pa_nil)))))))))))))))))
       (pss_cons (ps_set (i := 7) nd rfl (by first | exact Or.inl rfl | exact Or.inr rfl) (pe_ix ix_seq (pv 6) (pe_op o_rest (pe_fun (cb_Lcell_at KX G c) (hr.mono (by decide)) (He.glo_ok KX G (c.fact 53 rfl)) ho (pa_cons (pv 0) (pa_cons (pe_int) (pa_nil)))) (pe_int)) (fun _ _ => rfl)))
       (pss_cons (ps_set (i := 8) nd rfl (by first | exact Or.inl rfl | exact Or.inr rfl) (pe_ix ix_seq (pe_lst (pa_cons (pe_int) (pa_cons (pe_un o_neg (pe_int)) (pa_cons (pe_bl) (pa_cons (pe_bl) (pa_cons (pe_non) (pa_cons (pe_str) (pa_cons (pe_lst (pa_cons (pe_int) (pa_nil))) (pa_cons (pe_tup (pa_cons (pe_int) (pa_nil))) (pa_cons (pe_op o_pow (pe_int) (pe_int)) (pa_cons (pe_dnewK) (pa_nil)))))))))))) (pe_op o_rest (pe_fun (cb_Lcell_at KX G c) (hr.mono (by decide)) (He.glo_ok KX G (c.fact 53 rfl)) ho (pa_cons (pv 0) (pa_cons (pe_int) (pa_nil)))) (pe_int)) (fun _ _ => rfl)))
       (pss_cons (ps_set (i := 9) nd rfl (by first | exact Or.inl rfl | exact Or.inr rfl) (pe_ix ix_seq (pe_lst (pa_cons (pe_non) (pa_cons (pe_int) (pa_cons (pe_str) (pa_cons (pe_tup (pa_cons (pe_int) (pa_cons (pe_int) (pa_nil)))) (pa_cons (pe_lst (pa_cons (pe_int) (pa_nil))) (pa_cons (pe_lst (pa_cons (pe_int) (pa_cons (pe_un o_neg (pe_int)) (pa_nil)))) (pa_cons (pe_lst (pa_cons (pe_bl) (pa_nil))) (pa_cons (pe_op o_times (pe_lst (pa_cons (pe_int) (pa_nil))) (pe_int)) (pa_cons (pe_lst (pa_cons (pe_lst (pa_cons (pe_int) (pa_nil))) (pa_nil))) (pa_nil))))))))))) (pe_op o_rest (pe_fun (cb_Lcell_at KX G c) (hr.mono (by decide)) (He.glo_ok KX G (c.fact 53 rfl)) ho (pa_cons (pv 0) (pa_cons (pe_int) (pa_nil)))) (pe_int)) (fun _ _ => rfl)))
       (pss_cons (ps_asg (pe_fun (cb_Lstep KX G c) (hr.mono (by decide)) (He.glo_ok KX G (c.fact 52 rfl)) ho (pa_cons (pe_fun (cb_Lcell_at KX G c) (hr.mono (by decide)) (He.glo_ok KX G (c.fact 53 rfl)) ho (pa_cons (pv 0) (pa_cons (pe_int) (pa_nil)))) (pa_nil))) (pg_tup rfl (pgs_cons (pg_name (i := 4) nd rfl (by first | exact Or.inl rfl | exact Or.inr rfl)) (pgs_cons (pg_name (i := 5) nd rfl (by first | exact Or.inl rfl | exact Or.inr rfl)) (pgs_nil)))))
       (pss_cons (ps_set (i := 10) nd rfl (by first | exact Or.inl rfl | exact Or.inr rfl) (pe_lst (pa_cons (pe_mth0 (k := 7) (pv 1) (mo_one (He.cls_ok (c.fact 0 rfl)) (He.meth_ok (c.fact 22 rfl)) (cb_Span_ends KX G c) (by decide)) hr ho) (pa_cons (pe_mth0 (k := 7) (pv 1) (mo_one (He.cls_ok (c.fact 0 rfl)) (He.meth_ok (c.fact 55 rfl)) (cb_Span_told KX G c) (by decide)) hr ho) (pa_cons (pe_mth0 (k := 7) (pv 1) (mo_one (He.cls_ok (c.fact 0 rfl)) (He.meth_ok (c.fact 56 rfl)) (cb_Span_settled KX G c) (by decide)) hr ho) (pa_cons (pe_mth0 (k := 7) (pv 2) (mo_one (He.cls_ok (c.fact 4 rfl)) (He.meth_ok (c.fact 57 rfl)) (cb_Seeker_ends KX G c) (by decide)) hr ho) (pa_nil)))))))
       (pss_cons (ps_if (pt_cmpR (o_diff hr.units) (pe_fun (cb_Lkinds KX G c) (hr.mono (by decide)) (He.glo_ok KX G (c.fact 54 rfl)) ho (pa_cons (pe_int) (pa_cons (pv 1) (pa_cons (pv 7) (pa_cons (pv 5) (pa_nil)))))) (pe_lst (pa_cons (pe_bl) (pa_cons (pe_bl) (pa_cons (pe_bl) (pa_cons (pe_bl) (pa_cons (pe_bl) (pa_nil))))))) (nomark _)) (pss_one (ps_ret (pe_bl))) (pss_nil))
       (pss_cons (ps_if (pt_cmpR (o_diff hr.units) (pe_fun (cb_Lkinds KX G c) (hr.mono (by decide)) (He.glo_ok KX G (c.fact 54 rfl)) ho (pa_cons (pe_int) (pa_cons (pv 1) (pa_cons (pv 7) (pa_cons (pv 8) (pa_nil)))))) (pe_lst (pa_cons (pe_bl) (pa_cons (pe_bl) (pa_cons (pe_bl) (pa_cons (pe_bl) (pa_cons (pe_bl) (pa_nil))))))) (nomark _)) (pss_one (ps_ret (pe_bl))) (pss_nil))
       (pss_cons (ps_if (pt_cmpR (o_diff hr.units) (pe_fun (cb_Lkinds KX G c) (hr.mono (by decide)) (He.glo_ok KX G (c.fact 54 rfl)) ho (pa_cons (pe_int) (pa_cons (pv 1) (pa_cons (pv 4) (pa_cons (pv 8) (pa_nil)))))) (pe_lst (pa_cons (pe_bl) (pa_cons (pe_bl) (pa_cons (pe_bl) (pa_cons (pe_bl) (pa_cons (pe_bl) (pa_nil))))))) (nomark _)) (pss_one (ps_ret (pe_bl))) (pss_nil))
       (pss_cons (ps_if (pt_cmpR (o_diff hr.units) (pe_fun (cb_Lkinds KX G c) (hr.mono (by decide)) (He.glo_ok KX G (c.fact 54 rfl)) ho (pa_cons (pe_int) (pa_cons (pv 2) (pa_cons (pv 7) (pa_cons (pv 5) (pa_nil)))))) (pe_lst (pa_cons (pe_bl) (pa_cons (pe_bl) (pa_cons (pe_bl) (pa_cons (pe_bl) (pa_cons (pe_bl) (pa_nil))))))) (nomark _)) (pss_one (ps_ret (pe_bl))) (pss_nil))
       (pss_cons (ps_if (pt_cmpR (o_diff hr.units) (pe_fun (cb_Lkinds KX G c) (hr.mono (by decide)) (He.glo_ok KX G (c.fact 54 rfl)) ho (pa_cons (pe_int) (pa_cons (pv 9) (pa_cons (pv 4) (pa_cons (pv 5) (pa_nil)))))) (pe_lst (pa_cons (pe_bl) (pa_cons (pe_bl) (pa_cons (pe_bl) (pa_cons (pe_bl) (pa_cons (pe_bl) (pa_nil))))))) (nomark _)) (pss_one (ps_ret (pe_bl))) (pss_nil))
       (pss_cons (ps_if (pt_cmpR (o_diff hr.units) (pv 10) (pe_lst (pa_cons (pe_mth0 (k := 7) (pv 1) (mo_one (He.cls_ok (c.fact 0 rfl)) (He.meth_ok (c.fact 22 rfl)) (cb_Span_ends KX G c) (by decide)) hr ho) (pa_cons (pe_mth0 (k := 7) (pv 1) (mo_one (He.cls_ok (c.fact 0 rfl)) (He.meth_ok (c.fact 55 rfl)) (cb_Span_told KX G c) (by decide)) hr ho) (pa_cons (pe_mth0 (k := 7) (pv 1) (mo_one (He.cls_ok (c.fact 0 rfl)) (He.meth_ok (c.fact 56 rfl)) (cb_Span_settled KX G c) (by decide)) hr ho) (pa_cons (pe_mth0 (k := 7) (pv 2) (mo_one (He.cls_ok (c.fact 4 rfl)) (He.meth_ok (c.fact 57 rfl)) (cb_Seeker_ends KX G c) (by decide)) hr ho) (pa_nil)))))) (nomark _)) (pss_one (ps_ret (pe_bl))) (pss_nil))
       (pss_cons (ps_set (i := 8) nd rfl (by first | exact Or.inl rfl | exact Or.inr rfl) (pe_new (He.mkr_ok (c.fact 51 rfl)) (cb_Seeker_init KX G c) (hr.mono (by decide)) (He.glo_ok KX G (c.fact 46 rfl)) ho (pa_cons (pe_lc (own := [("_law_cell", 3)]) (g := gName 3) (tt := tYes) rfl nd (pi_list (pe_slice sl_list (pv 0) (po_some (pe_int)) (po_some (pe_int)))) (blkOk_by (N := N_law) (sc := defScope s_law) (by decide +kernel)) (fun _ _ _ _ _ => pg_name (i := 3) nd rfl (by first | exact Or.inl rfl | exact Or.inr rfl)) (fun _ _ _ _ _ => pts_nil) (fun _ _ _ _ _ => pe_op o_rest (pv 3) (pe_int))) (pa_nil))))
       (pss_cons (ps_for pz rfl (pi_list (pe_slice sl_list (pv 0) (po_some (pe_int)) (po_some (pe_int)))) (pg_name (i := 3) nd rfl (by first | exact Or.inl rfl | exact Or.inr rfl)) (pss_one (ps_expr (pe_mth (k := 7) (pv 8) (mo_one (He.cls_ok (c.fact 4 rfl)) (He.meth_ok (c.fact 50 rfl)) (cb_Seeker_bit KX G c) (by decide)) hr ho (pa_cons (pe_ix ix_seq (pe_fun (cb_Lstep KX G c) (hr.mono (by decide)) (He.glo_ok KX G (c.fact 52 rfl)) ho (pa_cons (pv 3) (pa_nil))) (pe_int) (fun _ _ => rfl)) (pa_nil))))))
       (pss_cons (ps_for pz rfl (pi_range1 (by rfl) (He.free_ok KX G (c.fact 15 rfl)) (pa_cons (pe_int) (pa_nil))) (pg_name (i := 11) nd rfl (by first | exact Or.inl rfl | exact Or.inr rfl)) (pss_one (ps_if (PW.pt (pw_or (pt_cmpR (o_diff hr.units) (pe_mth (k := 7) (pv 2) (mo_one (He.cls_ok (c.fact 4 rfl)) (He.meth_ok (c.fact 50 rfl)) (cb_Seeker_bit KX G c) (by decide)) hr ho (pa_cons (pv 4) (pa_nil))) (pe_mth (k := 7) (pv 8) (mo_one (He.cls_ok (c.fact 4 rfl)) (He.meth_ok (c.fact 50 rfl)) (cb_Seeker_bit KX G c) (by decide)) hr ho (pa_cons (pv 4) (pa_nil))) (nomark _)) (pw_or1 (pt_cmpR (o_diff hr.units) (pe_mth0 (k := 7) (pv 2) (mo_one (He.cls_ok (c.fact 4 rfl)) (He.meth_ok (c.fact 57 rfl)) (cb_Seeker_ends KX G c) (by decide)) hr ho) (pe_mth0 (k := 7) (pv 8) (mo_one (He.cls_ok (c.fact 4 rfl)) (He.meth_ok (c.fact 57 rfl)) (cb_Seeker_ends KX G c) (by decide)) hr ho) (nomark _))))) (pss_one (ps_ret (pe_bl))) (pss_nil))))
       (pss_one (ps_ret (pe_and (pe_cmpR o_isno (pe_mth (k := 7) (pv 1) (mo_one (He.cls_ok (c.fact 0 rfl)) (He.meth_ok (c.fact 43 rfl)) (cb_Span_narrow KX G c) (by decide)) hr ho (pa_cons (pv 4) (pa_cons (pv 5) (pa_nil)))) (pe_non) (nomark _)) (pe_one (pe_cmpR (o_diff hr.units) (pe_mth0 (k := 7) (pv 1) (mo_one (He.cls_ok (c.fact 0 rfl)) (He.meth_ok (c.fact 22 rfl)) (cb_Span_ends KX G c) (by decide)) hr ho) (pe_ix ix_seq (pv 10) (pe_int) (fun _ _ => rfl)) (nomark _))))))))))))))))))))))))
   (fun vs H Q E h => by
    obtain ⟨_, rfl, h⟩ := h
    haveI : HasCls K "Span" := ⟨He.cls_ok (c.fact 0 rfl)⟩
    haveI : HasNo K "Span" "low" := ⟨He.noat_ok (c.fact 1 rfl)⟩
    haveI : HasNo K "Span" "width" := ⟨He.noat_ok (c.fact 2 rfl)⟩
    haveI : HasNo K "Span" "size" := ⟨He.noat_ok (c.fact 3 rfl)⟩
    haveI : HasCls K "Seeker" := ⟨He.cls_ok (c.fact 4 rfl)⟩
    haveI : HasNo K "Seeker" "row" := ⟨He.noat_ok (c.fact 5 rfl)⟩
    haveI : HasNo K "Seeker" "span" := ⟨He.noat_ok (c.fact 6 rfl)⟩
    haveI : HasNo K "Seeker" "number" := ⟨He.noat_ok (c.fact 7 rfl)⟩
    haveI : HasNo K "Seeker" "taken" := ⟨He.noat_ok (c.fact 8 rfl)⟩
    haveI : HasExc K "NoBytes" := hexc_ok (c.ext 0 rfl)
    haveI : HasExm K "NoBytes" "ForetellError" true := hexm_ok (c.fact 9 rfl)
    haveI : HasKitT K "NoBytes" "ValueError" true := kitT_ok (c.ext 1 rfl)
    haveI : HasKit K "NoBytes" "NoChance" false := kit_ok (c.ext 2 rfl)
    haveI : HasKit K "NoBytes" "NoBit" false := kit_ok (c.ext 3 rfl)
    haveI : HasKit K "NoBytes" "NoBytes" true := kit_ok (c.ext 4 rfl)
    haveI : HasKit K "NoBytes" "NoMost" false := kit_ok (c.ext 5 rfl)
    haveI : HasKit K "NoBytes" "NoPress" false := kit_ok (c.ext 6 rfl)
    haveI : HasKit K "NoBytes" "NoText" false := kit_ok (c.ext 7 rfl)
    haveI : HasExc K "NoBit" := hexc_ok (c.ext 8 rfl)
    haveI : HasExm K "NoBit" "ForetellError" true := hexm_ok (c.fact 10 rfl)
    haveI : HasKitT K "NoBit" "ValueError" true := kitT_ok (c.ext 9 rfl)
    haveI : HasKit K "NoBit" "NoChance" false := kit_ok (c.ext 10 rfl)
    haveI : HasKit K "NoBit" "NoBit" true := kit_ok (c.ext 11 rfl)
    haveI : HasKit K "NoBit" "NoBytes" false := kit_ok (c.ext 12 rfl)
    haveI : HasKit K "NoBit" "NoMost" false := kit_ok (c.ext 13 rfl)
    haveI : HasKit K "NoBit" "NoPress" false := kit_ok (c.ext 14 rfl)
    haveI : HasKit K "NoBit" "NoText" false := kit_ok (c.ext 15 rfl)
    haveI : HasExc K "NoChance" := hexc_ok (c.ext 16 rfl)
    haveI : HasExm K "NoChance" "ForetellError" true := hexm_ok (c.fact 11 rfl)
    haveI : HasKitT K "NoChance" "ValueError" true := kitT_ok (c.ext 17 rfl)
    haveI : HasKit K "NoChance" "NoChance" true := kit_ok (c.ext 18 rfl)
    haveI : HasKit K "NoChance" "NoBit" false := kit_ok (c.ext 19 rfl)
    haveI : HasKit K "NoChance" "NoBytes" false := kit_ok (c.ext 20 rfl)
    haveI : HasKit K "NoChance" "NoMost" false := kit_ok (c.ext 21 rfl)
    haveI : HasKit K "NoChance" "NoPress" false := kit_ok (c.ext 22 rfl)
    haveI : HasKit K "NoChance" "NoText" false := kit_ok (c.ext 23 rfl)
    exact pure_law K h)
end
def hk : PySem.W.Hook := hookX 6 fa fn xf
def ob (s : PySem.W.SharedT) : AlX := obsXG 6 fa fn xf (HandSHeadRun.getT s)
theorem ob_eq (s : PySem.W.SharedT) : ob s = hk.obs s.abs := obsXG_eq (HandSHeadRun.getT_eq s)
def loose : List Str := (["ForetellError", "NoText", "NoBytes", "NoChance", "NoBit", "NoPress", "NoMost", "ONE", "LEAST", "MOST_BYTES", "is_whole", "is_bit", "is_chance", "is_sign", "are_signs", "checked_bytes", "checked_bit", "checked_chance", "WIDEST", "NARROWEST", "bytes_of_number", "Span", "Seeker", "_law_cell_at", "_law_step", "_law_kinds"] : List Str)
theorem run (w : World) : HandSHeadRun.RunEq W_.row (PySem.W.view W_.row.prog [31]) hk ob 6360 loose w := by
  intro os
  kernel_rfl
theorem facts {P : Program} {w : World} {K : PySem.W.Frag} {h : Heap} {mg : Str → Option Value} {f : Addr} (X : K.In h) (G : h.Ns mainGlobals mg) (hfa : mg ("law" : Str) = some (.ref f)) (c : SaysX fa fn xf K) :
    ∃ fd : FuncData, (∀ (s : Shared) (v : Value), BindsTo s fd ⟨[v], []⟩ [("_law_script", v)]) ∧ ∀ base : Heap, K.In base → base.Ns mainGlobals mg → FnOk P w K mg base (L2.CX P w) 8 f fd ["_law_script"] (sp_law K) := by
  obtain ⟨fd, F⟩ := c.def_ 21 rfl
  have e := hfa.symm.trans (He.glo_ok X G (c.fact 58 rfl))
  cases e
  have b := FunD.bindsA (ps := ["_law_script"]) F fun _ _ _ _ _ _ us hl => match us, hl with | [_], _ => rfl
  exact ⟨fd, fun s v => b s [v] rfl, fun base _ _ => ok_law (P := P) (w := w) (base := base) X G c F⟩
theorem cx_end {P : Program} {w : World} (H : Hp) (s : Shared) (e : Value) (s' : Shared) (z : L2.CX P w [] H s (fun _ _ _ => False) e s') : False := by
  obtain ⟨_, _, _, _, _, _, _, _, _, _, _, _, z⟩ := z
  exact z
end Fo
open PySem PySem.W PySem.Calls PyProof.Rows
theorem PySem.Challenge.cw_foretell_k04_span_refused_holds : PySem.Challenge.rw_foretell_k04_span_refused.Holds := by
  w_on; o_law
  refine HandSHeadRun.head_any (r := Fo.W_.row) (q := view Fo.W_.row.prog [31]) (H := Fo.hk) (ob := Fo.ob) (M := 6360) (loose := Fo.loose) (d := HandSHeadRun.topDef Fo.W_.row.prog 31) (kwd := []) Fo.ob_eq
    (by kernel_rfl) (fun s => by kernel_rfl) Fo.run (by kernel_rfl) (by kernel_rfl) (by kernel_rfl) (by rfl) (by first | assumption | decide +kernel) (by decide +kernel) ⟨rfl, rfl, rfl, rfl, rfl, by decide +kernel⟩ ?hw ?hc
  case hw => w_witness2
  case hc =>
    refine L2.walk_ofE (l := Fo.W_) (n := 63) (k := 8) (x := "_law_script") (CX := fun o H s E u s' => ∃ (P : Program) (w : World), L2.CX P w o H s E u s') rfl (by decide) (by kernel_rfl) ⟨rfl, by decide, by decide⟩ ?F (fun H s e s' z => by obtain ⟨P, w, z⟩ := z; exact Fo.cx_end H s e s' z)
    intro w mg fa h Y G hmg0
    obtain ⟨K, KX, c⟩ := Y
    have hmg : mg ("law" : PySem.Str) = some (.ref fa) := by
      have e : (HandSHeadRun.topDef Fo.W_.row.prog 31).name = ("law" : PySem.Str) := by kernel_rfl
      rw [← e]
      exact hmg0
    obtain ⟨fd, hb, hF⟩ := Fo.facts (P := Fo.W_.prog) (w := w) KX G hmg c
    exact ⟨K, fd, Fo.sp_law K, KX, hb, fun H a ns hl _ hS => Fo.law_here K H a ns hl hS, fun base hB hG => Fo.cx_any (hF base hB hG)⟩


