import PyProof.Rows.All
import PySem.Challenge.RW_foretell_k17_a_book
import Wide.All
import OpenK.AllK
import Wide.FinOn
import KE.KStateDown
import KE.KExcPX
import KE.GoesComp
import HandS.ForSpec
import HandS.Comp
import HandS.Conv
import HandS.Iter
import HandS.Zip
import HandS.Text
import HandS.More
import HandS.Dict
import HandS.DictComp
import HandS.Wide
import HandS.WideBits
import HandS.Flow
import HandS.IsInst
import HandS.Steps
import HandS.Defaults
import HandS.CallSlots
import HandS.CallRecv
import HandS.TryOnly
import HandS.TryElse
import HandS.ExcIs
import HandS.ExcOwn
import HandS.New0
import HandS.WordsExc
import HandS.Head0
import HandS.Head1
import HandS.Head2
import HandS.Walk
import HandS.WordsDict
import HandS.HeadEnd
import HandS.HeadHook1
import HandS.HeadHook2
import HandS.SuiteRaise
set_option Elab.async false
set_option linter.all false
set_option maxRecDepth 100000
set_option maxHeartbeats 4000000
namespace Fo
open PySem PySem.Spec PyProof.Rows L2
def Bx (P : Prop) : Prop := P
theorem Bx.out {P : Prop} (h : Bx P) : P := h
theorem Bx.eq (P : Prop) (h : P) : Bx P = True := eq_true h
/-! Fo: one reading for each operator, whatever the kinds of its operands; steps of readings; calls by bundles. -/
abbrev St := L2.St
abbrev Ends := L2.Ends
theorem orOp {X : Cx} {f : Value → Value → Sem Value} {r r' : R2} (h : OpR X f r) (h' : OpR X f r') : OpR X f (fun x y H Q => r x y H Q ∨ r' x y H Q) := by
  intro pins s σ H x y v u Q I rx ry q
  rcases q with q | q
  · exact h pins s σ H x y v u Q I rx ry q
  · exact h' pins s σ H x y v u Q I rx ry q
theorem orCall {X : Cx} {f : Value} {r r' : List V → Hp → VK → Prop} (h : CallR X f r) (h' : CallR X f r') : CallR X f (fun xs H Q => r xs H Q ∨ r' xs H Q) := by
  intro pins s σ H xs us Q I rs q
  rcases q with q | q
  · exact h pins s σ H xs us Q I rs q
  · exact h' pins s σ H xs us Q I rs q
/-! ### operators -/
def iAdd : R2 := rI0 fun i j => .int (i + j)
def sAdd : R2 := fun x y H Q => ∃ i j, x = .str i ∧ y = .str j ∧ i.length + j.length ≤ sizeLine ∧ Q (.str (i ++ j)) H
def rPlus (K : PySem.W.Frag) : R2 := fun x y H Q => iAdd x y H Q ∨ (rCat x y H Q ∨ (sAdd x y H Q ∨ rCatT K x y H Q))
def rMinus : R2 := rI0 fun i j => .int (i - j)
def iMul : R2 := rI IntMulOk fun i j => .int (i * j)
def rTimes : R2 := fun x y H Q => iMul x y H Q ∨ rRep x y H Q
def rFloor : R2 := rI CDivW fun i j => .int (i / j)
def rRest : R2 := rI (fun _ j => 0 < j) fun i j => .int (i % j)
def rPow : R2 := rI CPow fun i j => .int (i ^ j.toNat)
def rLsh : R2 := rI CShl fun i j => .int (i * 2 ^ j.toNat)
def rRsh : R2 := rI (fun _ j => 0 ≤ j) fun i j => .int (i / 2 ^ j.toNat)
def rMask : R2 := fun x y H Q => ∃ (i : Int) (k : Nat), x = .int i ∧ y = .int (2 ^ k - 1) ∧ Q (.int (i % 2 ^ k)) H
def rNeg : V → Hp → VK → Prop := rU fun i => .int (-i)
def iLt : R2 := rI0 fun i j => .bl (decide (i < j))
def iLe : R2 := rI0 fun i j => .bl (decide (i ≤ j))
def iGt : R2 := rI0 fun i j => .bl (decide (j < i))
def iGe : R2 := rI0 fun i j => .bl (decide (j ≤ i))
def sLe : R2 := fun x y H Q => ∃ i j, x = .str i ∧ y = .str j ∧ Q (.bl (!decide (j.cps.toList < i.cps.toList))) H
def rLe : R2 := fun x y H Q => iLe x y H Q ∨ sLe x y H Q
def rSame (K : PySem.W.Frag) : R2 := fun x y H Q => rEq x y H Q ∨ rEqD K x y H Q
def rDiff (K : PySem.W.Frag) : R2 := fun x y H Q => rNe x y H Q ∨ rNeD K x y H Q
def rDiff2 (K : PySem.W.Frag) : R2 := fun x y H Q => rDiff K x y H Q ∨ rNeDA x y H Q
def rIsNo : R2 := fun x y H Q => y = .non ∧ Q (.bl (decide (x = .non))) H
def rNotNo : R2 := fun x y H Q => y = .non ∧ Q (.bl (!decide (x = .non))) H
def rAmong (K : PySem.W.Frag) : R2 := fun x y H Q => rIn K false x y H Q ∨ rInS x y H Q
def rNotAmong (K : PySem.W.Frag) : R2 := fun x y H Q => rIn K true x y H Q ∨ rNotInS x y H Q
section
variable {X : Cx}
theorem o_plus : OpR X (binaryOp .Add) (rPlus X.K) := orOp op_add (orOp op_cat (orOp op_add_str op_catT))
theorem o_minus : OpR X (binaryOp .Sub) rMinus := op_sub
theorem o_imul : OpR X (binaryOp .Mult) iMul := opI fun _ _ _ _ _ _ _ hc q => mul_int q hc
theorem o_times : OpR X (binaryOp .Mult) rTimes := orOp o_imul op_rep
theorem o_floor : OpR X (binaryOp .FloorDiv) rFloor := op_fdivW
theorem o_rest : OpR X (binaryOp .Mod) rRest := op_mod
theorem o_pow : OpR X (binaryOp .Pow) rPow := op_pow
theorem o_lsh : OpR X (binaryOp .LShift) rLsh := op_shlW
theorem o_rsh : OpR X (binaryOp .RShift) rRsh := op_shr
theorem o_mask : OpR X (binaryOp .BitAnd) rMask := op_andM
theorem o_neg : UnR X (unaryOp .USub) rNeg := un_neg
theorem o_lt : OpR X (compareOp .Lt) iLt := op_lt
theorem o_le : OpR X (compareOp .LtE) rLe := orOp op_le op_le_str
theorem o_gt : OpR X (compareOp .Gt) iGt := op_gt
theorem o_ge : OpR X (compareOp .GtE) iGe := op_ge
theorem o_same (hu : X.A.units + 64 < cLine) : OpR X (compareOp .Eq) (rSame X.K) := orOp op_eq (op_eqD hu)
theorem o_diff (hu : X.A.units + 64 < cLine) : OpR X (compareOp .NotEq) (rDiff X.K) := orOp op_ne (op_neD hu)
theorem o_diff2 (hu : X.A.units + 64 < cLine) : OpR X (compareOp .NotEq) (rDiff2 X.K) := orOp (o_diff hu) (op_ne_dictA (by omega))
theorem o_isno : OpR X (compareOp .Is) rIsNo := op_isN
theorem o_notno : OpR X (compareOp .IsNot) rNotNo := op_notN
theorem o_among : OpR X (compareOp .In) (rAmong X.K) := orOp op_in_seq op_inS
theorem o_notamong : OpR X (compareOp .NotIn) (rNotAmong X.K) := orOp op_notIn_seq op_notInS
end
/-! ### built-ins -/
def rLength (K : PySem.W.Frag) : List V → Hp → VK → Prop := fun xs H Q => ∃ x n, xs = [x] ∧ LenV K x H n ∧ Q (.int n) H
def rListOf (K : PySem.W.Frag) : List V → Hp → VK → Prop := fun xs H Q => ∃ p ys, xs = [.ref p] ∧ (SqL K H p ys ∨ SqT K H p ys) ∧ ∀ l, H l = none → Q (.ref l) (upd H l (.lst ys))
def rTupleOf (K : PySem.W.Frag) : List V → Hp → VK → Prop := fun xs H Q => ∃ p ys, xs = [.ref p] ∧ ((SqL K H p ys ∧ ∀ l, H l = none → Q (.ref l) (upd H l (.tup ys))) ∨ (SqT K H p ys ∧ Q (.ref p) H))
def rMax2 : List V → Hp → VK → Prop := fun xs H Q => ∃ i j, xs = [.int i, .int j] ∧ Q (.int (if j > i then j else i)) H
def rMin2 : List V → Hp → VK → Prop := fun xs H Q => ∃ i j, xs = [.int i, .int j] ∧ Q (.int (if j < i then j else i)) H
def rGreatest (K : PySem.W.Frag) : List V → Hp → VK → Prop := fun xs H Q => rMax2 xs H Q ∨ L2.rMax K xs H Q
def rLeast (K : PySem.W.Frag) : List V → Hp → VK → Prop := fun xs H Q => rMin2 xs H Q ∨ L2.rMin K xs H Q
def rInt1 : List V → Hp → VK → Prop := fun xs H Q => (∃ i, xs = [.int i] ∧ Q (.int i) H) ∨ ∃ k, xs = [.bl k] ∧ Q (.int (if k then 1 else 0)) H
def rIsi2 (K : PySem.W.Frag) : List V → Hp → VK → Prop := fun xs H Q => rIsi K xs H Q ∨ rIsiT K xs H Q
section
variable {X : Cx}
theorem c_len : CallR X (.builtin "len") (rLength X.K) := call_len
theorem c_list : CallR X (.type "list") (rListOf X.K) := call_list_of
theorem c_tuple : CallR X (.type "tuple") (rTupleOf X.K) := call_tuple_of
theorem c_max (hc : X.calm = true) : CallR X (.builtin "max") (rGreatest X.K) := orCall (call_max2 hc) (cr_max hc)
theorem c_min (hc : X.calm = true) : CallR X (.builtin "min") (rLeast X.K) := orCall (call_min2 hc) (cr_min hc)
theorem c_int : CallR X (.type "int") rInt1 := call_int1
theorem c_isi : CallR X (.builtin "isinstance") (rIsi2 X.K) := orCall call_isi call_isiT
theorem c_all (hc : X.calm = true) : CallR X (.builtin "all") (rAll X.K) := cr_all hc
theorem c_any (hc : X.calm = true) : CallR X (.builtin "any") (rAny X.K) := cr_any hc
theorem c_sum (hc : X.calm = true) : CallR X (.builtin "sum") (rSum X.K) := cr_sum hc
end
/-! ### truth of a value -/
theorem pt_tru {X : Cx} {a : Expr} {ta : TE} (ha : PE X a ta) (he : ∀ whole, isTrue a X.env whole = (do let v ← whole; standAt a.pos; holding [v] (truthy v)) := by intro _; rfl) : PT X a (tTru X.K ta) := pt_truth ha he
/-! Fo, calls: a def, a method, a class, each by a bundle of what its call needs; what is raised is wished for at the slots where the call stands. -/
/-- two kinds of defs: of what one lets out the class and the dict are known (false), or that its context is None as well (true) -/
def Zf (n : Bool) (cls : Value) (d : Option Addr) : Obj → Prop := match n with
  | false => L2.Zc cls d
  | true => L2N.Zn cls d
def CXF (n : Bool) (P : Program) (w : World) : CXT := match n with
  | false => L2.CX P w
  | true => L2N.CX P w
def XEF (n : Bool) (X : Cx) (W : WX) (u : Value) (s' : Shared) : Prop :=
  ∃ (a : Addr) (B : Heap) (sI : Shared) (pins : List (Addr × Obj)) (σ : St) (H : Hp) (cls : Value) (d : Option Addr),
    u = .ref a ∧ Inv X pins σ H sI ∧ (∀ b o, sI.heap.get? b = some o → b ∉ frs X.stack → B.get? b = some o) ∧ sI.heap.UpToSlots s'.heap ∧
      Sky B X.stack a (Zf n cls d) X.env.locals s'.heap ∧ H a = none ∧ s'.os = sI.os ∧ AllBare s'.gens ∧ W cls d σ H
def TakesF (n : Bool) (X : Cx) (W : WX) : Prop := match n with
  | false => L2.Takes X W
  | true => L2N.Takes X W
theorem TakesF.go {n : Bool} {X : Cx} {W : WX} (tk : TakesF n X W) : ∀ u s', XEF n X W u s' → X.xe u s' := by
  cases n with
  | false => exact tk
  | true => exact tk
theorem Zf.steady1 {n : Bool} {cls : Value} {d : Option Addr} : PXN.Steady1 (Zf n cls d) := by
  cases n with
  | false => exact fun o v h => ⟨PXN.steady_cls o v h.1, PXN.steady_dict o v h.2⟩
  | true => exact L2N.Zn.steady
theorem CXF.ex {n : Bool} {P : Program} {w : World} {outer : List Env} {H : Hp} {s : Shared} {E : XK} {u : Value} {s' : Shared} (h : CXF n P w outer H s E u s') :
    ∃ (a : Addr) (B : Heap) (H' : Hp) (cls : Value) (d : Option Addr), u = .ref a ∧ HandSPX.FlyingZ B outer a (Zf n cls d) s'.heap ∧ HOk P w H' B ∧ UB (frs outer) H H' s.heap B s'.heap ∧ H' a = none ∧ s'.os = s.os ∧ AllBare s'.gens ∧ E cls d H' := by
  cases n with
  | false => exact h
  | true => exact h
theorem XEF.of_call {n : Bool} {X : Cx} {pins : List (Addr × Obj)} {σ : St} {H : Hp} {s s' : Shared} {W : WX} {E : XK} (I : Inv X pins σ H s) (hW : ∀ cls d H', E cls d H' → W cls d σ H') {u : Value} (c : CXF n X.prog X.w X.stack H s E u s') : XEF n X W u s' := by
  cases n with
  | false => exact L2.XE.of_call I hW c
  | true => exact L2N.XE.of_call I hW c
theorem CXF.mk {n : Bool} {P : Program} {w : World} {outer : List Env} {H : Hp} {s : Shared} {E : XK} {u : Value} {s' : Shared} 
    (h : ∃ (a : Addr) (B : Heap) (H' : Hp) (cls : Value) (d : Option Addr), u = .ref a ∧ HandSPX.FlyingZ B outer a (Zf n cls d) s'.heap ∧ HOk P w H' B ∧ UB (frs outer) H H' s.heap B s'.heap ∧ H' a = none ∧ s'.os = s.os ∧ AllBare s'.gens ∧ E cls d H') : CXF n P w outer H s E u s' := by
  cases n with
  | false => exact h
  | true => exact h
theorem cx_weak {P : Program} {w : World} {o : List Env} {H : Hp} {s : Shared} {E : XK} {u : Value} {s' : Shared} (h : L2N.CX P w o H s E u s') : L2.CX P w o H s E u s' := by
  obtain ⟨a, B, H', cls, d, e, fl, r⟩ := h
  exact ⟨a, B, H', cls, d, e, L2H.flyingZ_imp (fun o z => z.zc) fl, r⟩
/-- what is raised reaches those around, whatever the slots -/
def Out (n : Bool) (X : Cx) (E : St → XK) : Prop := (∀ σ, PassesAt (CXF true X.prog X.w) X σ (E σ)) ∧ (n = false → ∀ σ, PassesAt (CXF false X.prog X.w) X σ (E σ))
theorem Out.at_ {n m : Bool} {X : Cx} {E : St → XK} (h : Out n X E) (le : m = false → n = false) : ∀ σ, PassesAt (CXF m X.prog X.w) X σ (E σ) := by
  cases m with
  | true => exact h.1
  | false => exact h.2 (le rfl)
theorem out_of {X : Cx} {E : St → XK} (h : ∀ σ, PassesAt (L2.CX X.prog X.w) X σ (E σ)) : Out false X E := ⟨fun σ pins H s e s' I z => h σ pins H s e s' I (cx_weak z), fun _ => h⟩
theorem out_try {X : Cx} {W : WX} (tk : L2.Takes X W) : Out false X (WE W) := out_of fun σ => L2.passAt tk σ
theorem out_tryN {X : Cx} {W : WX} (tk : L2N.Takes X W) : Out true X (WE W) := ⟨fun σ => L2N.passAt tk σ, fun z => nomatch z⟩
theorem out_def {n : Bool} {X : Cx} {E : XK} (tk : TakesF n X (fun cls d _ H => E cls d H)) : Out n X (fun _ => E) := by
  cases n with
  | false => exact out_of fun σ => L2.passAt tk σ
  | true => exact ⟨fun σ => L2N.passAt tk σ, fun z => nomatch z⟩
/-- nothing is let out (a comprehension's block) -/
theorem out_none {X : Cx} : Out false X (fun _ => E0) := out_of fun _ _ _ _ _ _ _ h => by
  obtain ⟨_, _, _, _, _, _, _, _, _, _, _, _, z⟩ := h
  exact z.elim
/-- a def as it may be called: level, address, parameters, the defaults that fill up, promise -/
structure Cb (n : Bool) (P : Program) (w : World) (K : PySem.W.Frag) (mg : Str → Option Value) (base : Heap) (k : Nat) (f : Addr) (ps : List Str) (dvs : List V) (sp : Sp) : Prop where
  ex : ∃ (fd : FuncData) (ds : List Value), FnOk P w K mg base (CXF n P w) k f fd ps sp ∧ Binds K fd ps ds ∧ Vals dvs ds
  kp : PySem.W.keepIn K (.ref f) = true
abbrev CbX (n : Bool) (X : Cx) (k : Nat) (f : Addr) (ps : List Str) (dvs : List V) (sp : Sp) : Prop := Cb n X.prog X.w X.K X.mg X.base k f ps dvs sp
section
variable {n o1 : Bool} {X : Cx} {k : Nat} {f C : Addr} {ps : List Str} {sp : Sp} {dvs : List V} {E : St → XK} {x m : Str} {p pos apos : Pos} {e o : Expr} {es : List Expr} {ta : TE} {t : TA}
abbrev tFun : Sp → List V → (St → XK) → TA → TE := tCallSD
theorem pe_fun (B : CbX n X k f ps dvs sp) (hr : Room k X.A) (hm : X.mg x = some (.ref f)) (hx : Out o1 X E) (ha : PA X (e :: es) t) (hg : Gl X x := by rfl)
    (hdb : (x == ("__debug__" : Str)) = false := by decide) (he : starEach (e :: es) X.env = (false, eval e X.env) :: starEach es X.env := by rfl)
    (hpl : (backTo pos (starEach es X.env)).any (·.1) = false := by rfl) (le : n = false → o1 = false := by decide) : PE X (.Call (.Name x p) (e :: es) [] pos) (tFun sp dvs E t) := by
  obtain ⟨fd, ds, F, hb, hd⟩ := B.ex
  exact pe_callSD F hr hg hm B.kp hb hd (hx.at_ le) ha hdb he hpl
/-- o.m(..): ms tells of which classes the receiver may be, and each one's promise -/
def tMth (m : Str) (ms : Addr → Sp → Prop) (E : St → XK) (ta : TE) (t : TA) : TE := fun σ H Q =>
  ta σ H fun x H1 => ∃ a C dx fs sp, x = .ref a ∧ H1 a = some (.ins C dx fs) ∧ ms C sp ∧ fs.lookup m = none ∧ t σ H1 fun vs H2 => sp (x :: vs) H2 Q (E σ)
def one (C0 : Addr) (sp0 : Sp) : Addr → Sp → Prop := fun C sp => C = C0 ∧ sp = sp0
def oneD (C0 : Addr) (sp0 : Sp) (dvs : List V) : Addr → Sp → Prop := fun C sp => C = C0 ∧ sp = fun vs H Q E => sp0 (vs ++ dvs) H Q E
def orM (m1 m2 : Addr → Sp → Prop) : Addr → Sp → Prop := fun C sp => m1 C sp ∨ m2 C sp
/-- what is needed of each class -/
def MthOk (n : Bool) (P : Program) (w : World) (K : PySem.W.Frag) (mg : Str → Option Value) (base : Heap) (k : Nat) (m : Str) (ms : Addr → Sp → Prop) : Prop :=
  ∀ C sp, ms C sp → Cls K C ∧ ∃ (f : Addr) (ps : List Str) (dvs : List V) (sp' : Sp), Meth K C m f ∧ Cb n P w K mg base k f ps dvs sp' ∧ ∀ vs H Q E, sp vs H Q E → sp' (vs ++ dvs) H Q E
theorem mo_one {P : Program} {w : World} {K : PySem.W.Frag} {mg : Str → Option Value} {base : Heap} (c : Cls K C) (hm : Meth K C m f) {j : Nat} (B : Cb n P w K mg base j f ps [] sp) (hj : j ≤ k) : MthOk n P w K mg base k m (one C sp) := by
  rintro C' sp' ⟨rfl, rfl⟩
  obtain ⟨⟨fd, ds, F, r⟩, kp⟩ := B
  exact ⟨c, f, ps, [], sp', hm, ⟨⟨fd, ds, F.mono hj, r⟩, kp⟩, fun vs H Q E h => by rw [List.append_nil]; exact h⟩
theorem mo_oneD {P : Program} {w : World} {K : PySem.W.Frag} {mg : Str → Option Value} {base : Heap} (c : Cls K C) (hm : Meth K C m f) {j : Nat} (B : Cb n P w K mg base j f ps dvs sp) (hj : j ≤ k) : MthOk n P w K mg base k m (oneD C sp dvs) := by
  rintro C' sp' ⟨rfl, rfl⟩
  obtain ⟨⟨fd, ds, F, r⟩, kp⟩ := B
  exact ⟨c, f, ps, dvs, sp, hm, ⟨⟨fd, ds, F.mono hj, r⟩, kp⟩, fun vs H Q E h => h⟩
theorem mo_or {P : Program} {w : World} {K : PySem.W.Frag} {mg : Str → Option Value} {base : Heap} {m1 m2 : Addr → Sp → Prop} (h1 : MthOk n P w K mg base k m m1) (h2 : MthOk n P w K mg base k m m2) : MthOk n P w K mg base k m (orM m1 m2) := fun C sp h => h.elim (h1 C sp) (h2 C sp)
abbrev MForm (m : Str) (o : Expr) (es : List Expr) (apos pos : Pos) (env : Env) (pl : Sem Bool) : Prop :=
  eval (.Call (.Attribute o m apos) es [] pos) env = (do
    let ov ← eval o env
    standAt apos.atName
    let (g, first) ← holding [ov] (getMethod ov m pl)
    callWith pos g first (backTo pos (starEach es env)) (backToKw pos (keywordEach [] env)))
theorem pe_mth {pl : Sem Bool} {ms : Addr → Sp → Prop} (he : PE X o ta) (M : MthOk n X.prog X.w X.K X.mg X.base k m ms) (hr : Room k X.A) (hx : Out o1 X E) (ha : PA X (e :: es) t)
    (hst : starEach (e :: es) X.env = (false, eval e X.env) :: starEach es X.env := by rfl) (hpl : (backTo pos (starEach es X.env)).any (·.1) = false := by rfl)
    (ht : MForm m o (e :: es) apos pos X.env pl := by rfl) (le : n = false → o1 = false := by decide) : PE X (.Call (.Attribute o m apos) (e :: es) [] pos) (tMth m ms E ta t) := by
  refine ⟨fun pins s σ H Q I h => ?_⟩
  refine PySem.W.methodCall_KW (pl := pl) (thn (he.run pins s σ H _ I h) fun u s1 hh => ?_) ht
  obtain ⟨y, H1, I1, ry, a, C, dx, fs, sp, ey, ea, hC, l, q⟩ := hh
  obtain ⟨c, f, ps, dvs, sp', hm, B, imp⟩ := M C sp hC
  obtain ⟨fd, ds, F, hb, hd⟩ := B.ex
  subst ey
  obtain rfl : u = Value.ref a := ry
  refine getmeth_ok I1 ea c hm l ?_
  refine PySem.W.callWith_K (first := [.ref a]) (h₀ := X.base) I.ok.mod.kin hm.kp (thn (ha.run pos pins s1 σ H1 _ I1 q) fun us s2 hh => ?_) hst hpl
  obtain ⟨vs, H2, I2, r, q2⟩ := hh
  exact ⟨I2.kIn, run_fnSD (us := .ref a :: us) (vs := .ref a :: vs) F hr hb hd (hx.at_ le σ) I2 (.cons rfl r) (imp _ _ _ _ q2)⟩
theorem pe_mth0 {pl : Sem Bool} {ms : Addr → Sp → Prop} (he : PE X o ta) (M : MthOk n X.prog X.w X.K X.mg X.base k m ms) (hr : Room k X.A) (hx : Out o1 X E)
    (ht : MForm m o [] apos pos X.env pl := by rfl) (le : n = false → o1 = false := by decide) : PE X (.Call (.Attribute o m apos) [] [] pos) (tMth m ms E ta tNil) := by
  refine ⟨fun pins s σ H Q I h => ?_⟩
  refine PySem.W.methodCall_KW (pl := pl) (thn (he.run pins s σ H _ I h) fun u s1 hh => ?_) ht
  obtain ⟨y, H1, I1, ry, a, C, dx, fs, sp, ey, ea, hC, l, q⟩ := hh
  obtain ⟨c, f, ps, dvs, sp', hm, B, imp⟩ := M C sp hC
  obtain ⟨fd, ds, F, hb, hd⟩ := B.ex
  subst ey
  obtain rfl : u = Value.ref a := ry
  refine getmeth_ok I1 ea c hm l ?_
  exact PySem.W.callWith_K0 (first := [.ref a]) I1.kIn hm.kp (run_fnSD (us := [.ref a]) (vs := [.ref a]) F hr hb hd (hx.at_ le σ) I1 (.cons rfl .nil) (imp _ _ _ _ q))
/-- C(..): the new instance x and its dict dx, then __init__ -/
def tNew (C : Addr) (sp : Sp) (dvs : List V) (E : St → XK) (t : TA) : TE := fun σ H Q => t σ H fun vs H1 => ∀ x dx, H1 x = none → H1 dx = none → dx ≠ x →
  sp (.ref x :: (vs ++ dvs)) (upd (upd H1 dx (.own x)) x (.ins C dx [])) (fun v H2 => v = .non ∧ Q (.ref x) H2) (E σ)
theorem run_new {pins : List (Addr × Obj)} {σ : St} {H : Hp} {s : Shared} {Q : VK} {us : List Value} {vs : List V} (M : Mk X.K C f) (B : CbX n X k f ps dvs sp) (hr : Room (k + 1) X.A) (hx : Out o1 X E) (le : n = false → o1 = false) (I : Inv X pins σ H s) (r : Vals vs us)
    (h : ∀ x dx, H x = none → H dx = none → dx ≠ x → sp (.ref x :: (vs ++ dvs)) (upd (upd H dx (.own x)) x (.ins C dx [])) (fun v H2 => v = .non ∧ Q (.ref x) H2) (E σ)) :
    wpAny (model X.prog X.w) X.A (call (.ref C) us) (EP X pins σ Q) X.xe s := by
  obtain ⟨fd, ds, F, hb, hd⟩ := B.ex
  have n1 := I.hok.fresh (Nat.le_succ s.heap.objs.size)
  have n2 := I.hok.fresh (Nat.le_refl s.heap.objs.size)
  have hq := h (s.heap.objs.size + 1) s.heap.objs.size n1 n2 (Nat.ne_of_lt (Nat.lt_succ_self _))
  have I2 := Inv.made (C := C) I
  have r2 : Vals (V.ref (s.heap.objs.size + 1) :: (vs ++ dvs)) (Value.ref (s.heap.objs.size + 1) :: (us ++ ds)) := .cons rfl (r.append hd)
  have hl : (Value.ref (s.heap.objs.size + 1) :: us ++ ds).length = ps.length := r2.length.symm.trans (F.len _ _ _ _ hq)
  have go := F.run _ X.stack _ _ ⟨Value.ref (s.heap.objs.size + 1) :: us, []⟩ _ _ _ (E σ) (hr.make C us []) (I2.env0.make C us []) (hb _ (Value.ref (s.heap.objs.size + 1) :: us) I2.kIn hl) r2 hq
  refine wpAny_call (make_map (f := f) I.kIn M.makes M.init (beq_iff_eq.mp M.fn) (codeAny_mono go fun res s' hq' => ?_))
  match res, hq' with
  | .error er, hq' => exact hx.at_ le σ pins _ _ er s' I2 hq'
  | .ok (.ret u), hq' =>
    obtain ⟨rv, H', I3, rel, ev, q3⟩ := I2.after hq'
    subst ev
    exact ⟨rel, ⟨V.ref (s.heap.objs.size + 1), H', I3, rfl, q3⟩⟩
  | .ok .next, hq' => exact False.elim hq'
  | .ok .brk, hq' => exact False.elim hq'
  | .ok .cont, hq' => exact False.elim hq'
theorem pe_new (M : Mk X.K C f) (B : CbX n X k f ps dvs sp) (hr : Room (k + 1) X.A) (hm : X.mg x = some (.ref C)) (hx : Out o1 X E) (ha : PA X (e :: es) t) (hg : Gl X x := by rfl)
    (hdb : (x == ("__debug__" : Str)) = false := by decide) (he : starEach (e :: es) X.env = (false, eval e X.env) :: starEach es X.env := by rfl)
    (hpl : (backTo pos (starEach es X.env)).any (·.1) = false := by rfl) (le : n = false → o1 = false := by decide) : PE X (.Call (.Name x p) (e :: es) [] pos) (tNew C sp dvs E t) := by
  refine ⟨fun pins s σ H Q I h => ?_⟩
  refine wpAny_Call_Name_kw (ld_glob I hg hm ?_ hdb)
  refine PySem.W.callWith_K (h₀ := X.base) I.ok.mod.kin M.kp (thn (ha.run pos pins s σ H _ I h) fun us s1 hh => ?_) he hpl
  obtain ⟨vs, H1, I1, r, q⟩ := hh
  exact ⟨I1.kIn, run_new M B hr hx le I1 r q⟩
theorem pe_new0 (M : Mk X.K C f) (B : CbX n X k f ps dvs sp) (hr : Room (k + 1) X.A) (hm : X.mg x = some (.ref C)) (hx : Out o1 X E) (hg : Gl X x := by rfl)
    (hdb : (x == ("__debug__" : Str)) = false := by decide) (le : n = false → o1 = false := by decide) : PE X (.Call (.Name x p) [] [] pos) (tNew C sp dvs E tNil) := by
  refine ⟨fun pins s σ H Q I h => ?_⟩
  refine wpAny_Call_Name_kw (ld_glob I hg hm ?_ hdb)
  exact PySem.W.callWith_K0 I.kIn M.kp (run_new (us := []) M B hr hx le I .nil h)
end
/-- an own class of exceptions -/
structure Exn (K : PySem.W.Frag) (mg : Str → Option Value) (x : Str) (C : Addr) : Prop where
  g : mg x = some (.ref C)
  ok : PySem.W.excIn K C He.veBase "ValueError.__new__" = true
  kp : PySem.W.keepIn K (.ref C) = true
  sub : PySem.W.subIn K (.ref C) (.type "BaseException") = some true
  ty : PySem.W.typeIn K (.ref C) = some (.type "type")
section
variable {X : Cx} {C : Addr} {W : WX} {x m : Str} {j : Nat} {p p2 pos pos2 : Pos}
/-- raise C('m') -/
def tRz (W : WX) (C : Addr) : TS := fun _ σ H => W (.ref C) none σ H
theorem ps_rz {n : Bool} (N : Exn X.K X.mg x C) (hc : X.calm = true) (tk : TakesF n X W) (hg : Gl X x := by rfl) (hdb : (x == ("__debug__" : Str)) = false := by decide) :
    PS X (.Raise (some (.Call (.Name x p) [.Constant (.str m) j p2] [] pos)) none pos2) (tRz W C) :=
  match n, tk with
  | false, tk => L2.ps_raise hc tk (L2.pmk_own PySem.F.excBase_ValueError N.ok N.g N.kp (raises_own N.sub N.ty) hg hdb)
  | true, tk => L2N.ps_raise hc tk (L2N.pmk_own PySem.F.excBase_ValueError N.ok N.g N.kp (raises_own N.sub N.ty) hg hdb)
end
/-! ### globals as values -/
section
variable {X : Cx} {x : Str} {pos : Pos}
theorem pe_gint {i : Int} (hm : ∃ t, X.mg x = some (.int i t)) (hg : Gl X x := by rfl) (hd : (x == ("__debug__" : Str)) = false := by decide) : PE X (.Name x pos) (tC (.int i)) := by
  obtain ⟨t, hm⟩ := hm
  exact pe_glob hg hm ⟨t, rfl⟩ hd
theorem pe_gstr {z : Str} (hm : ∃ t, X.mg x = some (.str z t)) (hg : Gl X x := by rfl) (hd : (x == ("__debug__" : Str)) = false := by decide) : PE X (.Name x pos) (tC (.str z)) := by
  obtain ⟨t, hm⟩ := hm
  exact pe_glob hg hm ⟨t, rfl⟩ hd
theorem pe_gref {a : Addr} (hm : X.mg x = some (.ref a)) (hg : Gl X x := by rfl) (hd : (x == ("__debug__" : Str)) = false := by decide) : PE X (.Name x pos) (tC (.ref a)) := pe_glob hg hm rfl hd
theorem pe_gty {n : String} (hm : X.mg x = none) (hv : bootBuiltins x = some (.type n)) (hg : Gl X x := by rfl) (hn : x ≠ "__name__" := by decide) (hd : (x == ("__debug__" : Str)) = false := by decide) : PE X (.Name x pos) (tC (.ty n)) := pe_bltn hg hm hv rfl hn hd
end
/-! ### a def -/
section
variable {P : Program} {w : World} {K : PySem.W.Frag} {mg : Str → Option Value} {base : Heap} {x qual : Str} {st : Stmt} {f : Addr} {N ps : List Str} {k : Nat} {sp : Sp} {dvs : List V} {n : Bool}
abbrev DefAt (K : PySem.W.Frag) (x qual : Str) (st : Stmt) (dvs : List V) (f : Addr) : Prop := ∃ fd, FunD K x qual (defArgs st) (defBody st) (defScope st) dvs [] f fd
abbrev cxD (n : Bool) (P : Program) (w : World) (K : PySem.W.Frag) (mg : Str → Option Value) (base : Heap) (N : List Str) (qual : Str) (st : Stmt) (f : Addr) (cdv : Value) (A : Around) (outer : List Env) (s : Shared) (H : Hp) (E : XK) : Cx :=
  cxOf (CXF n P w) P w K mg base N qual (defScope st) f cdv A outer s H E
theorem cxD_takes {cdv : Value} {A : Around} {outer : List Env} {s : Shared} {H : Hp} {E : XK} : TakesF n (cxD n P w K mg base N qual st f cdv A outer s H E) (fun cls d _ H' => E cls d H') :=
  match n with
  | false => L2.takes_of rfl rfl rfl rfl
  | true => L2N.takes_of rfl rfl rfl rfl
theorem cxD_passes {cdv : Value} {A : Around} {outer : List Env} {s : Shared} {H : Hp} {E : XK} : PassesOwn (model P w) (A.deeper (envOfC qual (defScope st) s.heap.objs.size f cdv)) (envOfC qual (defScope st) s.heap.objs.size f cdv) (cxD n P w K mg base N qual st f cdv A outer s H E).xe :=
  passes_of (X := cxD n P w K mg base N qual st f cdv A outer s H E) rfl
/-- a def without defaults, by its body's reading T -/
theorem cb_of {T : XK → TS} (F : DefAt K x qual st [] f) (S : FnScope N ps (defScope st)) (len : ∀ vs H Q E, sp vs H Q E → vs.length = ps.length)
    (hb : ∀ (kV doc pm : Value) (an : Option Addr) (cdv ct : Value) (us : List Value), us.length = ps.length → bindArgs (PySem.W.fnOf x qual (defArgs st) (defBody st) (defScope st) .none kV doc pm an cdv ct) ⟨us, []⟩ = pure (ps.zip us))
    (body : ∀ (cdv : Value) (A : Around) (outer : List Env) (s : Shared) (H : Hp) (E : XK), Room k (A.deeper (envOfC qual (defScope st) s.heap.objs.size f cdv)) → PSs (cxD n P w K mg base N qual st f cdv A outer s H E) (defBody st) (T E))
    (read : ∀ vs H Q E, sp vs H Q E → T E { nx := fun _ H' => Q .non H', rt := Q } (start N vs) H) : Cb n P w K mg base (k + 1) f ps [] sp := by
  obtain ⟨fd, F⟩ := F
  exact ⟨⟨fd, [], F.ok S len fun cdv A outer s H vs Q E hr h => ⟨T E, body cdv A outer s H E hr, read vs H Q E h⟩, F.bindsN hb, .nil⟩, F.kp⟩
theorem Cb.mono {j : Nat} (B : Cb n P w K mg base j f ps dvs sp) (h : j ≤ k) : Cb n P w K mg base k f ps dvs sp := by
  obtain ⟨⟨fd, ds, F, r⟩, kp⟩ := B
  exact ⟨⟨fd, ds, F.mono h, r⟩, kp⟩
theorem Cb.imp {sp' : Sp} (B : Cb n P w K mg base k f ps dvs sp) (h : ∀ vs H Q E, sp' vs H Q E → sp vs H Q E) : Cb n P w K mg base k f ps dvs sp' := by
  obtain ⟨⟨fd, ds, F, r⟩, kp⟩ := B
  exact ⟨⟨fd, ds, F.imp h, r⟩, kp⟩
end
theorem tkF {X : Cx} {W : WX} (tk : L2.Takes X W) : TakesF false X W := tk
theorem tkN {X : Cx} {W : WX} (tk : L2N.Takes X W) : TakesF true X W := tk
/-! Fo, steps: one for each form of a reading; what is left is what the form asks. -/
/-! ### lists of slots -/
inductive SetR : St → Nat → Option V → St → Prop
  | zero {a x : Option V} {l : St} : SetR (a :: l) 0 x (x :: l)
  | succ {a x : Option V} {l l' : St} {i : Nat} : SetR l i x l' → SetR (a :: l) (i + 1) x (a :: l')
theorem SetR.eq {σ σ' : St} {i : Nat} {x : Option V} (h : SetR σ i x σ') : σ.set i x = σ' := by
  induction h with
  | zero => rfl
  | succ _ ih => rw [List.set_cons_succ, ih]
/-- n at the slots with v put in place i -/
def asgn (i : Nat) (n : St → Hp → Prop) (v : V) (σ : St) (H : Hp) : Prop := n (σ.set i (some v)) H
def lstK (vs : List V) (H : Hp) (Q : VK) : Prop := vs.length ≤ sizeLine ∧ ∀ p, H p = none → Q (.ref p) (upd H p (.lst vs))
def tupK (vs : List V) (H : Hp) (Q : VK) : Prop := vs.length ≤ sizeLine ∧ ∀ p, H p = none → Q (.ref p) (upd H p (.tup vs))
def fldK (K : PySem.W.Frag) (f : Str) (x : V) (H : Hp) (Q : VK) : Prop := ∃ a C dx fs v, x = .ref a ∧ H a = some (.ins C dx fs) ∧ Cls K C ∧ NoAttr K C f ∧ fs.lookup f = some v ∧ Q v H
def stoK (K : PySem.W.Frag) (f : Str) (y x : V) (H : Hp) (n : Hp → Prop) : Prop := ∃ a C dx fs, x = .ref a ∧ H a = some (.ins C dx fs) ∧ Cls K C ∧ NoAttr K C f ∧ fs.length < 1000 ∧ n (upd H a (.ins C dx (putF f y fs)))
section
variable {K : PySem.W.Frag} {σ σ' : St} {H H' : Hp} {Q : VK} {R : Bool → Hp → Prop} {S : List V → Hp → Prop} {te ta tb tc : TE} {t u : TS} {tt tu : TT} {tl : TA} {x y v : V} {i j : Int} {k b : Bool} {r r' : R2} {z z' : Str}
variable {n : St → Hp → Prop} {rt : VK} {bk ct : St → Hp → Prop} {m : Nat} {p q : Addr} {xs ys vs : List V}
/-! ### expressions -/
theorem g_var (h : σ[m]? = some (some v)) (q : Q v H) : tVar m σ H Q := ⟨v, h, q⟩
theorem g_c (q : Q v H) : tC v σ H Q := q
theorem g_op (q : ta σ H fun x H1 => tb σ H1 fun y H2 => r x y H2 Q) : tOp r ta tb σ H Q := q
theorem g_un {r : V → Hp → VK → Prop} (q : ta σ H fun x H1 => r x H1 Q) : tUn r ta σ H Q := q
theorem g_cb {r : List V → Hp → VK → Prop} (q : tl σ H fun vs H1 => r vs H1 Q) : tCB r tl σ H Q := q
theorem g_nil (q : S [] H) : tNil σ H S := q
theorem g_cons {tr : TA} (q : te σ H fun x H1 => tr σ H1 fun xs H2 => S (x :: xs) H2) : tCons te tr σ H S := q
theorem g_bm {T : String} {r : V → List V → Hp → VK → Prop} (q : te σ H fun x H1 => tyV K T x H1 ∧ tl σ H1 fun xs H2 => r x xs H2 Q) : tBM K T r te tl σ H Q := q
theorem g_bm0 {T : String} {r : V → List V → Hp → VK → Prop} (q : te σ H fun x H1 => tyV K T x H1 ∧ r x [] H1 Q) : tBM0 K T r te σ H Q := q
theorem g_lst (q : tl σ H fun vs H1 => lstK vs H1 Q) : tLst tl σ H Q := q
theorem g_tup (q : tl σ H fun vs H1 => tupK vs H1 Q) : tTup tl σ H Q := q
theorem g_fld {f : Str} (q : te σ H fun x H1 => fldK K f x H1 Q) : tFld K te f σ H Q := q
theorem g_fun {sp : Sp} {dvs : List V} {E : St → XK} (q : tl σ H fun vs H1 => sp (vs ++ dvs) H1 Q (E σ)) : tFun sp dvs E tl σ H Q := q
theorem g_new {C : Addr} {sp : Sp} {dvs : List V} {E : St → XK} (q : tl σ H fun vs H1 => ∀ x dx, H1 x = none → H1 dx = none → dx ≠ x → sp (.ref x :: (vs ++ dvs)) (upd (upd H1 dx (.own x)) x (.ins C dx [])) (fun v H2 => v = .non ∧ Q (.ref x) H2) (E σ)) :
    tNew C sp dvs E tl σ H Q := q
theorem g_mth {f : Str} {ms : Addr → Sp → Prop} {E : St → XK} (q : te σ H fun x H1 => ∃ a C dx fs sp, x = .ref a ∧ H1 a = some (.ins C dx fs) ∧ ms C sp ∧ fs.lookup f = none ∧ tl σ H1 fun vs H2 => sp (x :: vs) H2 Q (E σ)) : tMth f ms E te tl σ H Q := q
theorem g_andV (q : ta σ H fun x H1 => ∃ c, x = .bl c ∧ if c = true then tb σ H1 Q else Q (.bl false) H1) : tAndV ta tb σ H Q := q
theorem g_orV (q : ta σ H fun x H1 => ∃ c, x = .bl c ∧ if c = true then Q (.bl true) H1 else tb σ H1 Q) : tOrV ta tb σ H Q := q
theorem g_notV (q : te σ H fun x H1 => ∃ c, x = .bl c ∧ Q (.bl (!c)) H1) : tNotV te σ H Q := q
theorem g_chain (q : ta σ H fun x H1 => tb σ H1 fun y H2 => r x y H2 fun z H3 => ∃ k, z = .bl k ∧ if k = true then tc σ H3 fun w H4 => r' y w H4 Q else Q (.bl false) H3) : tChain r r' ta tb tc σ H Q := q
theorem g_sl {rr : V → Option Int → Option Int → Hp → VK → Prop} {to1 to2 : TO} (q : te σ H fun x H1 => to1 σ H1 fun a H2 => to2 σ H2 fun b H3 => rr x a b H3 Q) : tSl rr te to1 to2 σ H Q := q
theorem g_part {S : Option Int → Hp → Prop} (q : te σ H fun x H1 => ∃ i, x = .int i ∧ S (some i) H1) : tPart te σ H S := q
theorem g_nopart {S : Option Int → Hp → Prop} (q : S none H) : tNoPart σ H S := q
theorem g_bits (q : te σ H fun x H1 => ∃ i, x = .int i ∧ Q (.int (Builtin.Int.intBits i : Nat)) H1) : tBits te σ H Q := q
theorem g_dget (q : ta σ H fun x H1 => tb σ H1 fun y H2 => ∃ a v, x = .ref a ∧ DGet H2 a y (some v) ∧ Q v H2) : tDGet ta tb σ H Q := q
theorem g_din (q : ta σ H fun y H1 => tb σ H1 fun x H2 => ∃ a o, x = .ref a ∧ DGet H2 a y o ∧ Q (.bl o.isSome) H2) : tDIn ta tb σ H Q := q
theorem g_dnotin (q : ta σ H fun y H1 => tb σ H1 fun x H2 => ∃ a o, x = .ref a ∧ DGet H2 a y o ∧ Q (.bl (!o.isSome)) H2) : tDNotIn ta tb σ H Q := q
/-! ### values that are known -/
theorem g_int (q : ∀ w, w = i → ∃ j, V.int w = .int j ∧ Q (.int j) H) : ∃ j, V.int i = .int j ∧ Q (.int j) H := q i rfl
theorem g_eint {T : Int → Prop} (q : T i) : ∃ j, V.int i = .int j ∧ T j := ⟨i, rfl, q⟩
theorem g_ebl {T : Bool → Prop} (q : T b) : ∃ j, V.bl b = .bl j ∧ T j := ⟨b, rfl, q⟩
theorem g_plus (q : Q (.int (i + j)) H) : rPlus K (.int i) (.int j) H Q := .inl ⟨i, j, rfl, rfl, q⟩
theorem g_cat (hx : H p = some (.lst xs)) (hy : H m = some (.lst ys)) (hl : xs.length + ys.length ≤ sizeLine) (q : ∀ l, H l = none → Q (.ref l) (upd H l (.lst (xs ++ ys)))) : rPlus K (.ref p) (.ref m) H Q := .inr (.inl ⟨p, m, xs, ys, rfl, rfl, hx, hy, hl, q⟩)
theorem g_plusS (hl : z.length + z'.length ≤ sizeLine) (q : Q (.str (z ++ z')) H) : rPlus K (.str z) (.str z') H Q := .inr (.inr (.inl ⟨z, z', rfl, rfl, hl, q⟩))
theorem g_minus (q : Q (.int (i - j)) H) : rMinus (.int i) (.int j) H Q := ⟨i, j, rfl, rfl, q⟩
theorem g_times (h : IntMulOk i j) (q : Q (.int (i * j)) H) : rTimes (.int i) (.int j) H Q := .inl ⟨i, j, rfl, rfl, h, q⟩
theorem g_rep (hx : H p = some (.lst xs)) (h1 : -(2 ^ 63) ≤ i) (h2 : i < 2 ^ 63) (hl : xs.length * i.toNat ≤ sizeLine) (q : ∀ l, H l = none → Q (.ref l) (upd H l (.lst (List.replicate i.toNat xs).flatten))) : rTimes (.ref p) (.int i) H Q :=
  .inr ⟨p, i, xs, rfl, rfl, hx, h1, h2, hl, q⟩
theorem g_floor (h : CDivW i j) (q : Q (.int (i / j)) H) : rFloor (.int i) (.int j) H Q := ⟨i, j, rfl, rfl, h, q⟩
theorem g_rest (h : 0 < j) (q : Q (.int (i % j)) H) : rRest (.int i) (.int j) H Q := ⟨i, j, rfl, rfl, h, q⟩
theorem g_pow (h : CPow i j) (q : Q (.int (i ^ j.toNat)) H) : L2.rI CPow (fun i j => .int (i ^ j.toNat)) (.int i) (.int j) H Q := ⟨i, j, rfl, rfl, h, q⟩
theorem g_lsh (h : CShl i j) (q : Q (.int (i * 2 ^ j.toNat)) H) : rLsh (.int i) (.int j) H Q := ⟨i, j, rfl, rfl, h, q⟩
theorem g_rsh (h : 0 ≤ j) (q : Q (.int (i / 2 ^ j.toNat)) H) : rRsh (.int i) (.int j) H Q := ⟨i, j, rfl, rfl, h, q⟩
theorem g_neg (q : Q (.int (-i)) H) : rNeg (.int i) H Q := ⟨i, rfl, q⟩
theorem g_lt (q : Q (.bl (decide (i < j))) H) : iLt (.int i) (.int j) H Q := ⟨i, j, rfl, rfl, q⟩
theorem g_le (q : Q (.bl (decide (i ≤ j))) H) : rLe (.int i) (.int j) H Q := .inl ⟨i, j, rfl, rfl, q⟩
theorem g_leS (q : Q (.bl (!decide (z'.cps.toList < z.cps.toList))) H) : rLe (.str z) (.str z') H Q := .inr ⟨z, z', rfl, rfl, q⟩
theorem g_gt (q : Q (.bl (decide (j < i))) H) : iGt (.int i) (.int j) H Q := ⟨i, j, rfl, rfl, q⟩
theorem g_ge (q : Q (.bl (decide (j ≤ i))) H) : iGe (.int i) (.int j) H Q := ⟨i, j, rfl, rfl, q⟩
theorem dec_int (i j : Int) : decide (V.int i = V.int j) = decide (i = j) := by
  by_cases h : i = j
  · rw [decide_eq_true h, decide_eq_true (by rw [h])]
  · rw [decide_eq_false h, decide_eq_false (fun e => h (V.int.inj e))]
theorem dec_str (i j : Str) : decide (V.str i = V.str j) = decide (i = j) := by
  by_cases h : i = j
  · rw [decide_eq_true h, decide_eq_true (by rw [h])]
  · rw [decide_eq_false h, decide_eq_false (fun e => h (V.str.inj e))]
theorem g_same (q : Q (.bl (decide (i = j))) H) : rSame K (.int i) (.int j) H Q := .inl ⟨rfl, by rw [dec_int]; exact q⟩
theorem g_diff (q : Q (.bl (!decide (i = j))) H) : rDiff K (.int i) (.int j) H Q := .inl ⟨rfl, by rw [dec_int]; exact q⟩
theorem g_sameS (q : Q (.bl (decide (z = z'))) H) : rSame K (.str z) (.str z') H Q := .inl ⟨rfl, by rw [dec_str]; exact q⟩
theorem g_diffS (q : Q (.bl (!decide (z = z'))) H) : rDiff K (.str z) (.str z') H Q := .inl ⟨rfl, by rw [dec_str]; exact q⟩
theorem g_isno (q : Q (.bl (decide (x = .non))) H) : rIsNo x .non H Q := ⟨rfl, q⟩
theorem g_notno (q : Q (.bl (!decide (x = .non))) H) : rNotNo x .non H Q := ⟨rfl, q⟩
theorem g_lenL (h : SqL K H p xs) (q : Q (.int (xs.length : Int)) H) : rLength K [.ref p] H Q := ⟨.ref p, xs.length, rfl, .inl ⟨xs, h, rfl⟩, q⟩
theorem g_lenT (h : SqT K H p xs) (q : Q (.int (xs.length : Int)) H) : rLength K [.ref p] H Q := ⟨.ref p, xs.length, rfl, .inr ⟨xs, h, rfl⟩, q⟩
theorem g_lenS (h : z.length ≤ sizeLine) (q : Q (.int (z.length : Int)) H) : rLength K [.str z] H Q := ⟨.str z, z.length, rfl, ⟨h, rfl⟩, q⟩
theorem g_listL (h : SqL K H p xs) (q : ∀ l, H l = none → Q (.ref l) (upd H l (.lst xs))) : rListOf K [.ref p] H Q := ⟨p, xs, rfl, .inl h, q⟩
theorem g_listT (h : SqT K H p xs) (q : ∀ l, H l = none → Q (.ref l) (upd H l (.lst xs))) : rListOf K [.ref p] H Q := ⟨p, xs, rfl, .inr h, q⟩
theorem g_tupleL (h : SqL K H p xs) (q : ∀ l, H l = none → Q (.ref l) (upd H l (.tup xs))) : rTupleOf K [.ref p] H Q := ⟨p, xs, rfl, .inl ⟨h, q⟩⟩
theorem g_max2 (q : Q (.int (if j > i then j else i)) H) : rGreatest K [.int i, .int j] H Q := .inl ⟨i, j, rfl, q⟩
theorem g_min2 (q : Q (.int (if j < i then j else i)) H) : rLeast K [.int i, .int j] H Q := .inl ⟨i, j, rfl, q⟩
theorem g_intI (q : Q (.int i) H) : rInt1 [.int i] H Q := .inl ⟨i, rfl, q⟩
theorem g_intB (q : Q (.int (if b then 1 else 0)) H) : rInt1 [.bl b] H Q := .inr ⟨b, rfl, q⟩
theorem g_all {bs : List Bool} (h : SqL K H p (bs.map V.bl)) (q : Q (.bl (bs.all id)) H) : rAll K [.ref p] H Q := ⟨p, bs, rfl, h, q⟩
theorem g_any {bs : List Bool} (h : SqL K H p (bs.map V.bl)) (q : Q (.bl (bs.any id)) H) : rAny K [.ref p] H Q := ⟨p, bs, rfl, h, q⟩
theorem g_sum {ns : List Int} (h : SqL K H p (ns.map V.int)) (q : Q (.int ns.sum) H) : rSum K [.ref p] H Q := ⟨p, ns, rfl, h, q⟩
theorem g_ixL (h : SqL K H p xs) (ha : atI xs i = some v) (q : Q v H) : rIx K (.ref p) (.int i) H Q := .inl ⟨p, xs, i, v, rfl, rfl, h, ha, q⟩
theorem g_ixT (h : SqT K H p xs) (ha : atI xs i = some v) (q : Q v H) : rIx K (.ref p) (.int i) H Q := .inr (.inl ⟨p, xs, i, v, rfl, rfl, h, ha, q⟩)
theorem g_ixS {c : Nat} (hl : z.length ≤ sizeLine) (ha : atI z.cps.toList i = some c) (q : Q (.str ⟨#[c]⟩) H) : rIx K (.str z) (.int i) H Q := .inr (.inr ⟨z, i, c, rfl, rfl, hl, ha, q⟩)
theorem g_slL {lo hi : Option Int} (h : SqL K H p xs) (q : ∀ l, H l = none → Q (.ref l) (upd H l (.lst (cutV xs lo hi)))) : rSlL K (.ref p) lo hi H Q := ⟨p, xs, rfl, h, q⟩
theorem g_isi {s : Str} {tn cn : String} (ht : TyX K H x (.type tn)) (hk : kitB tn cn = some b) (q : Q (.bl b) H) : rIsi2 K [x, .ty cn] H Q := .inl ⟨x, .ty cn, .type tn, .type cn, b, rfl, .ty cn, ht, kit_ty hk, q⟩
theorem g_append (h : H p = some (.lst xs)) (hl : xs.length < sizeLine) (q : Q .non (upd H p (.lst (xs ++ [y])))) : rAppend (.ref p) [y] H Q := ⟨p, xs, y, rfl, rfl, h, hl, q⟩
theorem g_reverse (h : H p = some (.lst xs)) (q : Q .non (upd H p (.lst xs.reverse))) : rReverse (.ref p) [] H Q := ⟨p, xs, rfl, rfl, h, q⟩
theorem g_clear (h : H p = some (.lst xs)) (q : Q .non (upd H p (.lst []))) : rClear (.ref p) [] H Q := ⟨p, xs, rfl, rfl, h, q⟩
theorem g_tyL {A : Prop} (h : SqL K H p xs) (q : A) : tyV K "list" (.ref p) H ∧ A := ⟨.inl ⟨rfl, xs, h⟩, q⟩
theorem g_tyS {A : Prop} (q : A) : tyV K "str" (.str z) H ∧ A := ⟨rfl, q⟩
theorem g_lstK (hl : vs.length ≤ sizeLine) (q : ∀ p, H p = none → Q (.ref p) (upd H p (.lst vs))) : lstK vs H Q := ⟨hl, q⟩
theorem g_tupK (hl : vs.length ≤ sizeLine) (q : ∀ p, H p = none → Q (.ref p) (upd H p (.tup vs))) : tupK vs H Q := ⟨hl, q⟩
theorem g_fldK {f : Str} {C dx : Addr} {fs : List (Str × V)} (h : H p = some (.ins C dx fs)) (c : Cls K C) (na : NoAttr K C f) (hl : fs.lookup f = some v) (q : Q v H) : fldK K f (.ref p) H Q := ⟨p, C, dx, fs, v, rfl, h, c, na, hl, q⟩
theorem g_stoK {f : Str} {C dx : Addr} {fs : List (Str × V)} {n : Hp → Prop} (h : H p = some (.ins C dx fs)) (c : Cls K C) (na : NoAttr K C f) (hl : fs.length < 1000) (q : n (upd H p (.ins C dx (putF f y fs)))) : stoK K f y (.ref p) H n := ⟨p, C, dx, fs, rfl, h, c, na, hl, q⟩
/-! ### tests -/
theorem g_test (q : te σ H fun x H1 => ∃ c, x = .bl c ∧ R c H1) : tTest te σ H R := q
theorem g_B (q : te σ H fun x H1 => ∃ c, x = .bl c ∧ R c H1) : tB te σ H R := q
theorem g_tru (q : te σ H fun x H1 => ∃ c, TruV K x H1 c ∧ R c H1) : tTru K te σ H R := q
theorem g_truB {T : Bool → Prop} (q : T b) : ∃ c, TruV K (.bl b) H c ∧ T c := ⟨b, rfl, q⟩
theorem g_and (q : tt σ H fun c H1 => if c = true then tu σ H1 R else R false H1) : tAnd tt tu σ H R := q
theorem g_or (q : tt σ H fun c H1 => if c = true then R true H1 else tu σ H1 R) : tOr tt tu σ H R := q
theorem g_not (q : tt σ H fun c H1 => R (!c) H1) : tNot tt σ H R := q
theorem g_ifT {A B : Prop} (q : A) : if true = true then A else B := iteT q
theorem g_ifF {A B : Prop} (q : B) : if false = true then A else B := iteF q
theorem g_ifNT {A B : Prop} (q : B) : if (!true) = true then A else B := iteF q
theorem g_ifNF {A B : Prop} (q : A) : if (!false) = true then A else B := iteT q
theorem dif {c A B : Prop} [Decidable c] (h1 : c → A) (h2 : ¬ c → B) : if decide c = true then A else B := by
  by_cases h : c
  · rw [decide_eq_true h]; exact iteT (h1 h)
  · rw [decide_eq_false h]; exact iteF (h2 h)
theorem difN {c A B : Prop} [Decidable c] (h1 : ¬ c → A) (h2 : c → B) : if (!decide c) = true then A else B := by
  by_cases h : c
  · rw [decide_eq_true h]; exact iteF (h2 h)
  · rw [decide_eq_false h]; exact iteT (h1 h)
theorem difB {A B : Prop} (h1 : b = true → A) (h2 : b = false → B) : if b = true then A else B := by
  cases b with
  | true => exact iteT (h1 rfl)
  | false => exact iteF (h2 rfl)
theorem difNB {A B : Prop} (h1 : b = false → A) (h2 : b = true → B) : if (!b) = true then A else B := by
  cases b with
  | true => exact iteF (h2 rfl)
  | false => exact iteT (h1 rfl)
theorem difY {c A B : Prop} [Decidable c] (h : c) (q : A) : if decide c = true then A else B := by rw [decide_eq_true h]; exact iteT q
theorem difX {c A B : Prop} [Decidable c] (h : ¬ c) (q : B) : if decide c = true then A else B := by rw [decide_eq_false h]; exact iteF q
/-! ### statements -/
theorem g_seq (q : t ⟨u ⟨n, rt, bk, ct⟩, rt, bk, ct⟩ σ H) : tSeq t u ⟨n, rt, bk, ct⟩ σ H := q
theorem g_next (q : n σ H) : tNext ⟨n, rt, bk, ct⟩ σ H := q
theorem g_drop (q : te σ H fun _ H1 => n σ H1) : tDrop te ⟨n, rt, bk, ct⟩ σ H := q
theorem g_ret (q : te σ H rt) : tRet te ⟨n, rt, bk, ct⟩ σ H := q
theorem g_retN (q : rt .non H) : tRetN ⟨n, rt, bk, ct⟩ σ H := q
theorem g_asg (q : te σ H fun v H1 => asgn m n v σ H1) : tAsg te (gName m) ⟨n, rt, bk, ct⟩ σ H := q
theorem g_asgn (r : SetR σ m (some v) σ') (q : n σ' H) : asgn m n v σ H := by unfold asgn; rw [r.eq]; exact q
theorem g_if (q : tt σ H fun c H1 => if c = true then t ⟨n, rt, bk, ct⟩ σ H1 else u ⟨n, rt, bk, ct⟩ σ H1) : tIfS tt t u ⟨n, rt, bk, ct⟩ σ H := q
theorem g_aug {ti : TIp} (hx : σ[m]? = some (some x)) (q : te σ H fun y H1 => ti x y H1 fun z H2 => asgn m n z σ H2) : tAug m te ti ⟨n, rt, bk, ct⟩ σ H := ⟨x, hx, q⟩
theorem g_ip {f : Int → Int → Int} (q : Q (.int (f i j)) H) : ipI f (.int i) (.int j) H Q := ⟨i, j, rfl, rfl, q⟩
theorem g_sto {f : Str} (q : tb σ H fun y H1 => ta σ H1 fun x H2 => stoK K f y x H2 fun H3 => n σ H3) : sFld K ta tb f ⟨n, rt, bk, ct⟩ σ H := q
theorem g_rz {W : WX} {C : Addr} (q : W (.ref C) none σ H) : tRz W C ⟨n, rt, bk, ct⟩ σ H := q
/-! ### promises by the number of arguments -/
end
def on1 (F : V → Hp → VK → XK → Prop) : Sp := fun vs H Q E => ∃ a, vs = [a] ∧ F a H Q E
def on2 (F : V → V → Hp → VK → XK → Prop) : Sp := fun vs H Q E => ∃ a b, vs = [a, b] ∧ F a b H Q E
def on3 (F : V → V → V → Hp → VK → XK → Prop) : Sp := fun vs H Q E => ∃ a b c, vs = [a, b, c] ∧ F a b c H Q E
def on4 (F : V → V → V → V → Hp → VK → XK → Prop) : Sp := fun vs H Q E => ∃ a b c d, vs = [a, b, c, d] ∧ F a b c d H Q E
def on5 (F : V → V → V → V → V → Hp → VK → XK → Prop) : Sp := fun vs H Q E => ∃ a b c d e, vs = [a, b, c, d, e] ∧ F a b c d e H Q E
section
variable {H : Hp} {Q : VK} {E : XK} {a b c d e : V}
theorem g_on1 {F : V → Hp → VK → XK → Prop} (q : F a H Q E) : on1 F ([a] ++ []) H Q E := ⟨a, rfl, q⟩
theorem g_on2 {F : V → V → Hp → VK → XK → Prop} (q : F a b H Q E) : on2 F ([a, b] ++ []) H Q E := ⟨a, b, rfl, q⟩
theorem g_on3 {F : V → V → V → Hp → VK → XK → Prop} (q : F a b c H Q E) : on3 F ([a, b, c] ++ []) H Q E := ⟨a, b, c, rfl, q⟩
theorem g_on4 {F : V → V → V → V → Hp → VK → XK → Prop} (q : F a b c d H Q E) : on4 F ([a, b, c, d] ++ []) H Q E := ⟨a, b, c, d, rfl, q⟩
end
/-! ### what stands where -/
section
variable {K : PySem.W.Frag} {H H1 : Hp} {a p : Addr} {o u : HO} {xs : List V}
theorem lk_new (h : H a = some o) (hp : H p = none) : upd H p u a = some o := by rw [upd_ne (ne_of_none h hp)]; exact h
theorem lk_mut (hn : a ≠ p) (h : H a = some o) : upd H p u a = some o := by rw [upd_ne hn]; exact h
theorem sq_new (h : SqL K H a xs) (hp : H p = none) : SqL K (upd H p u) a xs := by
  rcases h with (h | ⟨v, h⟩) | h
  · exact .inl (.inl (lk_new h hp))
  · exact .inl (.inr ⟨v, lk_new h hp⟩)
  · exact .inr h
theorem sq_mut (hn : a ≠ p) (h : SqL K H a xs) : SqL K (upd H p u) a xs := by
  rcases h with (h | ⟨v, h⟩) | h
  · exact .inl (.inl (lk_mut hn h))
  · exact .inl (.inr ⟨v, lk_mut hn h⟩)
  · exact .inr h
theorem st_new (h : SqT K H a xs) (hp : H p = none) : SqT K (upd H p u) a xs := by
  rcases h with (h | ⟨v, h⟩) | h
  · exact .inl (.inl (lk_new h hp))
  · exact .inl (.inr ⟨v, lk_new h hp⟩)
  · exact .inr h
theorem st_mut (hn : a ≠ p) (h : SqT K H a xs) : SqT K (upd H p u) a xs := by
  rcases h with (h | ⟨v, h⟩) | h
  · exact .inl (.inl (lk_mut hn h))
  · exact .inl (.inr ⟨v, lk_mut hn h⟩)
  · exact .inr h
theorem sq_of (h : H a = some (.lst xs)) : SqL K H a xs := .inl (.inl h)
theorem stt_of (h : H a = some (.tup xs)) : SqT K H a xs := .inl (.inl h)
theorem Same.tup (e : Same H H1) (h : SqT K H a xs) : SqT K H1 a xs := by
  rcases h with (h | ⟨v, h⟩) | h
  · exact .inl (.inl (e _ _ h))
  · exact .inl (.inr ⟨v, e _ _ h⟩)
  · exact .inr h
theorem same_new (e : Same H H1) (hp : H1 p = none) : Same H (upd H1 p u) := fun b x h => lk_new (e b x h) hp
theorem same_mut (e : Same H H1) (hp : H p = none) : Same H (upd H1 p u) := fun b x h => lk_mut (ne_of_none h hp) (e b x h)
/-- a sequence's place is another than a mutable thing's -/
theorem sq_ne (h : SqL K H a xs) (hK : ∀ o, K.lookup a = some o → H p = none → a ≠ p) (hp : H p = none) : a ≠ p := by
  rcases h with (h | ⟨v, h⟩) | ⟨o, _, _, h, _⟩
  · exact ne_of_none h hp
  · exact ne_of_none h hp
  · exact hK o h hp
end
theorem lk_same {H H1 : Hp} {a : Addr} {o : HO} (e : Same H H1) (h : H a = some o) : H1 a = some o := e a o h
theorem lk_newF {H : Hp} {a p : Addr} {o u : HO} (hp : H p = none) (h : H a = some o) : upd H p u a = some o := lk_new h hp
theorem sq_newF {K : PySem.W.Frag} {H : Hp} {a p : Addr} {u : HO} {xs : List V} (hp : H p = none) (h : SqL K H a xs) : SqL K (upd H p u) a xs := sq_new h hp
theorem st_newF {K : PySem.W.Frag} {H : Hp} {a p : Addr} {u : HO} {xs : List V} (hp : H p = none) (h : SqT K H a xs) : SqT K (upd H p u) a xs := st_new h hp
theorem same_newF {H H1 : Hp} {p : Addr} {u : HO} (hp : H1 p = none) (e : Same H H1) : Same H (upd H1 p u) := same_new e hp
theorem same_mutF {H H1 : Hp} {p : Addr} {u : HO} (hp : H p = none) (e : Same H H1) : Same H (upd H1 p u) := same_mut e hp
theorem same_transF {H H1 H2 : Hp} (f : Same H1 H2) (e : Same H H1) : Same H H2 := Same.trans e f
theorem ne_of_noneF {H : Hp} {a p : Addr} {o : HO} (hp : H p = none) (h : H a = some o) : a ≠ p := ne_of_none h hp
theorem lkF {H H1 : Hp} {a : Addr} {o : HO} (h : H a = some o) (e : Same H H1) : H1 a = some o := e a o h
theorem sqF {K : PySem.W.Frag} {H H1 : Hp} {a : Addr} {xs : List V} (h : SqL K H a xs) (e : Same H H1) : SqL K H1 a xs := e.seq h
theorem sqLF {K : PySem.W.Frag} {H H1 : Hp} {a : Addr} {xs : List V} (h : H a = some (.lst xs)) (e : Same H H1) : SqL K H1 a xs := sq_of (e _ _ h)
theorem tqF {K : PySem.W.Frag} {H H1 : Hp} {a : Addr} {xs : List V} (h : SqT K H a xs) (e : Same H H1) : SqT K H1 a xs := Same.tup e h
theorem tqLF {K : PySem.W.Frag} {H H1 : Hp} {a : Addr} {xs : List V} (h : H a = some (.tup xs)) (e : Same H H1) : SqT K H1 a xs := stt_of (e _ _ h)
/-! Fo, loops and comprehensions over ints and over any values. -/
theorem map_at {α : Type} {f : α → V} {ns : List α} {i : Nat} {x : V} (h : (ns.map f)[i]? = some x) : ∃ z, ns[i]? = some z ∧ x = f z := by
  rw [List.getElem?_map] at h
  cases e : ns[i]? with
  | none => rw [e] at h; cases h
  | some z => rw [e] at h; exact ⟨z, rfl, (Option.some.inj h).symm⟩
/-- the loop over an iteration J, from the slots σ and the heap H -/
def forJ (J : It) (g : TG) (tb : TS) (n : St → Hp → Prop) (rt : VK) (σ : St) (H : Hp) : Prop :=
  ∃ W : Nat → Nat → St → Hp → Prop, (∃ m, W 0 m σ H) ∧ ∀ i m σ H, W i m σ H →
    (J.stop i H ∧ n σ H) ∨ (J.go i H ∧ ∃ N : St → Hp → Prop, (∀ σ' H', N σ' H' → ∃ m', m' < m ∧ W (i + 1) m' σ' H') ∧ ∀ x H', J.yld i H x H' → g x σ H' fun σ2 H2 => tb ⟨N, rt, n, N⟩ σ2 H2)
def forLK (K : PySem.W.Frag) (g : TG) (tb : TS) (n : St → Hp → Prop) (rt : VK) (σ : St) (x : V) (H : Hp) : Prop := ∃ a, x = .ref a ∧ (∃ xs, SqL K H a xs) ∧ forJ (Itl K a) g tb n rt σ H
def forTK (K : PySem.W.Frag) (g : TG) (tb : TS) (n : St → Hp → Prop) (rt : VK) (σ : St) (x : V) (H : Hp) : Prop := ∃ a, x = .ref a ∧ (∃ xs, SqT K H a xs) ∧ forJ (Itt K a) g tb n rt σ H
def forR1K (g : TG) (tb : TS) (n : St → Hp → Prop) (rt : VK) (σ : St) (vs : List V) (H : Hp) : Prop := ∃ j : Int, vs = [.int j] ∧ -(2 ^ 62) ≤ j ∧ j < 2 ^ 62 ∧ forJ (Itr 0 j.toNat) g tb n rt σ H
def forR2K (g : TG) (tb : TS) (n : St → Hp → Prop) (rt : VK) (σ : St) (vs : List V) (H : Hp) : Prop :=
  ∃ i j : Int, vs = [.int i, .int j] ∧ (-(2 ^ 62) ≤ i ∧ i < 2 ^ 62 ∧ -(2 ^ 62) ≤ j ∧ j < 2 ^ 62) ∧ forJ (Itr i (j - i).toNat) g tb n rt σ H
section
variable {K : PySem.W.Frag} {σ σ' : St} {H H' : Hp} {Q : VK} {te te0 : TE} {ta : TA} {tb : TS} {g : TG} {m : Nat} {n : St → Hp → Prop} {rt : VK} {bk ct : St → Hp → Prop} {a : Addr} {xs : List V} {i j : Int}
theorem g_forL (q : te σ H fun x H1 => forLK K g tb n rt σ x H1) : tFor (iList K te) g tb ⟨n, rt, bk, ct⟩ σ H := q
theorem g_forT (q : te σ H fun x H1 => forTK K g tb n rt σ x H1) : tFor (iTup K te) g tb ⟨n, rt, bk, ct⟩ σ H := q
theorem g_forR1 (q : ta σ H fun vs H1 => forR1K g tb n rt σ vs H1) : tFor (iRng1 ta) g tb ⟨n, rt, bk, ct⟩ σ H := q
theorem g_forR2 (q : ta σ H fun vs H1 => forR2K g tb n rt σ vs H1) : tFor (iRng2 ta) g tb ⟨n, rt, bk, ct⟩ σ H := q
theorem for_L (hs : SqL K H a xs) (Pv : Nat → St → Hp → Prop) (h0 : Pv 0 σ H) (hl : ∀ i σ H, Pv i σ H → SqL K H a xs)
    (ht : ∀ i x σ H, xs[i]? = some x → Pv i σ H → g x σ H fun σ2 H2 => tb ⟨Pv (i + 1), rt, n, Pv (i + 1)⟩ σ2 H2) (hd : ∀ σ H, Pv xs.length σ H → n σ H) : forLK K g tb n rt σ (.ref a) H :=
  ⟨a, rfl, ⟨xs, hs⟩, for_list (D := ⟨n, rt, fun _ _ => False, fun _ _ => False⟩) Pv h0 (fun i σ H _ p => hl i σ H p) ht hd⟩
theorem for_T (hs : SqT K H a xs) (Pv : Nat → St → Hp → Prop) (h0 : Pv 0 σ H) (hl : ∀ i σ H, Pv i σ H → SqT K H a xs)
    (ht : ∀ i x σ H, xs[i]? = some x → Pv i σ H → g x σ H fun σ2 H2 => tb ⟨Pv (i + 1), rt, n, Pv (i + 1)⟩ σ2 H2) (hd : ∀ σ H, Pv xs.length σ H → n σ H) : forTK K g tb n rt σ (.ref a) H :=
  ⟨a, rfl, ⟨xs, hs⟩, for_tup (D := ⟨n, rt, fun _ _ => False, fun _ _ => False⟩) Pv h0 (fun i σ H _ p => hl i σ H p) ht hd⟩
/-- over ints, to one name -/
theorem for_LI {ns : List Int} (hs : SqL K H a (ns.map V.int)) (Pv : Nat → St → Hp → Prop) (h0 : Pv 0 σ H) (hl : ∀ i σ H, Pv i σ H → SqL K H a (ns.map V.int))
    (ht : ∀ i z σ H, ns[i]? = some z → Pv i σ H → asgn m (fun σ2 H2 => tb ⟨Pv (i + 1), rt, n, Pv (i + 1)⟩ σ2 H2) (.int z) σ H) (hd : ∀ σ H, Pv ns.length σ H → n σ H) : forLK K (gName m) tb n rt σ (.ref a) H := by
  refine for_L hs Pv h0 hl (fun i x σ H hx p => ?_) fun σ H p => hd σ H (by rw [List.length_map] at p; exact p)
  obtain ⟨z, hz, rfl⟩ := map_at hx
  exact ht i z σ H hz p
theorem for_TI {ns : List Int} (hs : SqT K H a (ns.map V.int)) (Pv : Nat → St → Hp → Prop) (h0 : Pv 0 σ H) (hl : ∀ i σ H, Pv i σ H → SqT K H a (ns.map V.int))
    (ht : ∀ i z σ H, ns[i]? = some z → Pv i σ H → asgn m (fun σ2 H2 => tb ⟨Pv (i + 1), rt, n, Pv (i + 1)⟩ σ2 H2) (.int z) σ H) (hd : ∀ σ H, Pv ns.length σ H → n σ H) : forTK K (gName m) tb n rt σ (.ref a) H := by
  refine for_T hs Pv h0 hl (fun i x σ H hx p => ?_) fun σ H p => hd σ H (by rw [List.length_map] at p; exact p)
  obtain ⟨z, hz, rfl⟩ := map_at hx
  exact ht i z σ H hz p
theorem for_R1 {k : Nat} (hk : j = (k : Int)) (hb : k < 2 ^ 62) (Pv : Nat → St → Hp → Prop) (h0 : Pv 0 σ H)
    (ht : ∀ (i : Nat) σ H, i < k → Pv i σ H → asgn m (fun σ2 H2 => tb ⟨Pv (i + 1), rt, n, Pv (i + 1)⟩ σ2 H2) (.int (i : Int)) σ H) (hd : ∀ σ H, Pv k σ H → n σ H) : forR1K (gName m) tb n rt σ [.int j] H := by
  subst hk
  refine ⟨k, rfl, by omega, by omega, for_range (D := ⟨n, rt, fun _ _ => False, fun _ _ => False⟩) Pv h0 (fun i σ H hi p => ?_) fun σ H p => hd σ H (by simpa using p)⟩
  have e : (0 : Int) + (i : Int) = (i : Int) := by omega
  rw [e]
  exact ht i σ H (by simpa using hi) p
theorem for_R2 {k : Nat} (hk : (j - i).toNat = k) (hb : -(2 ^ 62) ≤ i ∧ i < 2 ^ 62 ∧ -(2 ^ 62) ≤ j ∧ j < 2 ^ 62) (Pv : Nat → St → Hp → Prop) (h0 : Pv 0 σ H)
    (ht : ∀ (l : Nat) σ H, l < k → Pv l σ H → asgn m (fun σ2 H2 => tb ⟨Pv (l + 1), rt, n, Pv (l + 1)⟩ σ2 H2) (.int (i + (l : Int))) σ H) (hd : ∀ σ H, Pv k σ H → n σ H) : forR2K (gName m) tb n rt σ [.int i, .int j] H := by
  subst hk
  exact ⟨i, j, rfl, hb, for_range (D := ⟨n, rt, fun _ _ => False, fun _ _ => False⟩) Pv h0 (fun l σ H hi p => ht l σ H hi p) fun σ H p => hd σ H p⟩
/-! ### comprehensions -/
def lcJ (J : It) (g : TG) (tt : TT) (te : TE) (vs : List Nat) (σ : St) (H1 : Hp) (Q : VK) : Prop :=
  ∀ D, H1 D = none → ∃ W : Nat → Nat → Hp → Prop, (∃ m, W 0 m (upd H1 D (.lst []))) ∧ ∀ i m H, W i m H →
  (J.stop i H ∧ Q (.ref D) H) ∨ (J.go i H ∧ ∃ Nx : Hp → Prop, (∀ H', Nx H' → ∃ m', m' < m ∧ W (i + 1) m' H') ∧ ∀ x H', J.yld i H x H' → g x (wipe σ vs) H' fun σ2 H2 => wipe σ2 vs = wipe σ vs ∧ tt σ2 H2 fun b H3 =>
    if b = true then te σ2 H3 fun y H4 => ∃ acc, H4 D = some (.lst acc) ∧ acc.length < sizeLine ∧ Nx (upd H4 D (.lst (acc ++ [y]))) else Nx H3)
def lcLK (K : PySem.W.Frag) (g : TG) (tt : TT) (te : TE) (vs : List Nat) (σ : St) (x : V) (H : Hp) (Q : VK) : Prop := ∃ a, x = .ref a ∧ (∃ xs, SqL K H a xs) ∧ lcJ (Itl K a) g tt te vs σ H Q
def lcTK (K : PySem.W.Frag) (g : TG) (tt : TT) (te : TE) (vs : List Nat) (σ : St) (x : V) (H : Hp) (Q : VK) : Prop := ∃ a, x = .ref a ∧ (∃ xs, SqT K H a xs) ∧ lcJ (Itt K a) g tt te vs σ H Q
def lcR1K (g : TG) (tt : TT) (te : TE) (vs : List Nat) (σ : St) (us : List V) (H : Hp) (Q : VK) : Prop := ∃ j : Int, us = [.int j] ∧ -(2 ^ 62) ≤ j ∧ j < 2 ^ 62 ∧ lcJ (Itr 0 j.toNat) g tt te vs σ H Q
theorem g_lcL {tt : TT} {vs : List Nat} (q : te0 σ H fun x H1 => lcLK K g tt te vs σ x H1 Q) : tLc (iList K te0) g tt te vs σ H Q := q
theorem g_lcT {tt : TT} {vs : List Nat} (q : te0 σ H fun x H1 => lcTK K g tt te vs σ x H1 Q) : tLc (iTup K te0) g tt te vs σ H Q := q
theorem g_lcR1 {tt : TT} {vs : List Nat} (q : ta σ H fun us H1 => lcR1K g tt te vs σ us H1 Q) : tLc (iRng1 ta) g tt te vs σ H Q := q
/-- each item's value y: f x. What the elements lay down besides stands behind -/
def eachK (te : TE) (m : Nat) (σ : St) (H1 : Hp) (D : Addr) (x y : V) : Prop :=
  ∀ H2 Q, Same H1 H2 → (∀ H3, Same H2 H3 → Q y H3) → asgn m (fun σ2 H2 => te σ2 H2 Q) x (σ.set m none) H2
theorem wipe1 (x : Option V) : wipe (((wipe σ [m])).set m x) [m] = wipe σ [m] := by
  show ((((σ.set m none)).set m x).set m none) = σ.set m none
  rw [List.set_set, List.set_set]
theorem lc_each (xs : List V) (f : V → V) (J : It) (hg : ∀ i H, i < xs.length → Same H' H → J.go i H) (hy : ∀ i H x H2, i < xs.length → Same H' H → J.yld i H x H2 → H2 = H ∧ xs[i]? = some x) (hs : ∀ H, Same H' H → J.stop xs.length H) (hl : xs.length ≤ 1000000)
    (he : ∀ x, x ∈ xs → ∀ D, eachK te m σ H' D x (f x)) (hq : ∀ D H3, H' D = none → Same H' H3 → H3 D = some (.lst (xs.map f)) → Q (.ref D) H3) : lcJ J (gName m) tYes te [m] σ H' Q := by
  intro D hD
  refine ⟨fun i k H => k = xs.length - i ∧ i ≤ xs.length ∧ Same H' H ∧ H D = some (.lst ((xs.take i).map f)), ⟨xs.length, rfl, Nat.zero_le _, same_new (Same.refl _) hD, upd_same⟩, ?_⟩
  rintro i k H ⟨rfl, hi, s, e⟩
  by_cases hlt : i < xs.length
  · refine .inr ⟨hg i H hlt s, fun H2 => Same H' H2 ∧ H2 D = some (.lst ((xs.take (i + 1)).map f)), fun H2 p => ⟨xs.length - (i + 1), by omega, rfl, hlt, p⟩, fun x H2 hx => ?_⟩
    obtain ⟨rfl, ex⟩ := hy i H x H2 hlt s hx
    have hm : x ∈ xs := List.mem_of_getElem? ex
    refine ⟨wipe1 _, ?_⟩
    have yes : ∀ {A B : Prop}, A → if true = true then A else B := fun h => iteT h
    refine yes (B := ((fun H2 => Same H' H2 ∧ H2 D = some (HO.lst ((xs.take (i + 1)).map f))) H2)) ?_
    refine he x hm D H2 _ s fun H3 s3 => ⟨(xs.take i).map f, s3 _ _ e, ?_, same_mut (Same.trans s s3) hD, ?_⟩
    · rw [List.length_map, List.length_take]
      exact Nat.lt_of_le_of_lt (Nat.le_trans (Nat.min_le_right _ _) hl) (by decide)
    · rw [upd_same, List.take_add_one, ex, List.map_append]
      rfl
  · have e1 : i = xs.length := by omega
    subst e1
    rw [List.take_length] at e
    exact .inl ⟨hs H s, hq D H hD s e⟩
theorem lc_L (hs : SqL K H a xs) (f : V → V) (hl : xs.length ≤ 1000000) (he : ∀ x, x ∈ xs → ∀ D, eachK te m σ H D x (f x)) (hq : ∀ D H3, H D = none → Same H H3 → H3 D = some (.lst (xs.map f)) → Q (.ref D) H3) :
    lcLK K (gName m) tYes te [m] σ (.ref a) H Q :=
  ⟨a, rfl, ⟨xs, hs⟩, lc_each xs f (Itl K a) (fun i H hi s => ⟨xs, xs[i], s.seq hs, List.getElem?_eq_getElem hi⟩) (fun i H x H2 _ s y => ⟨y.1, y.2 xs (s.seq hs)⟩) (fun H s => ⟨xs, s.seq hs, Nat.le_refl _⟩) hl he hq⟩
theorem lc_T (hs : SqT K H a xs) (f : V → V) (hl : xs.length ≤ 1000000) (he : ∀ x, x ∈ xs → ∀ D, eachK te m σ H D x (f x)) (hq : ∀ D H3, H D = none → Same H H3 → H3 D = some (.lst (xs.map f)) → Q (.ref D) H3) :
    lcTK K (gName m) tYes te [m] σ (.ref a) H Q :=
  ⟨a, rfl, ⟨xs, hs⟩, lc_each xs f (Itt K a) (fun i H hi s => ⟨xs, xs[i], Fo.Same.tup s hs, List.getElem?_eq_getElem hi⟩) (fun i H x H2 _ s y => ⟨y.1, y.2 xs (Fo.Same.tup s hs)⟩) (fun H s => ⟨xs, Fo.Same.tup s hs, Nat.le_refl _⟩) hl he hq⟩
/-- ints to anything -/
theorem lc_LI {ns : List Int} (hs : SqL K H a (ns.map V.int)) (f : Int → V) (hl : ns.length ≤ 1000000) (he : ∀ z, z ∈ ns → ∀ D, eachK te m σ H D (.int z) (f z)) (hq : ∀ D H3, H D = none → Same H H3 → H3 D = some (.lst (ns.map f)) → Q (.ref D) H3) :
    lcLK K (gName m) tYes te [m] σ (.ref a) H Q := by
  have key : (ns.map V.int).map (fun v => match v with | .int z => f z | _ => .non) = ns.map f := by rw [List.map_map]; rfl
  refine lc_L hs (fun v => match v with | .int z => f z | _ => .non) (by rw [List.length_map]; exact hl) (fun x hx D => ?_) (by rw [key]; exact hq)
  obtain ⟨z, hz, rfl⟩ := List.mem_map.mp hx
  exact he z hz D
theorem lc_TI {ns : List Int} (hs : SqT K H a (ns.map V.int)) (f : Int → V) (hl : ns.length ≤ 1000000) (he : ∀ z, z ∈ ns → ∀ D, eachK te m σ H D (.int z) (f z)) (hq : ∀ D H3, H D = none → Same H H3 → H3 D = some (.lst (ns.map f)) → Q (.ref D) H3) :
    lcTK K (gName m) tYes te [m] σ (.ref a) H Q := by
  have key : (ns.map V.int).map (fun v => match v with | .int z => f z | _ => .non) = ns.map f := by rw [List.map_map]; rfl
  refine lc_T hs (fun v => match v with | .int z => f z | _ => .non) (by rw [List.length_map]; exact hl) (fun x hx D => ?_) (by rw [key]; exact hq)
  obtain ⟨z, hz, rfl⟩ := List.mem_map.mp hx
  exact he z hz D
theorem lc_R1 {k : Nat} (hk : j = (k : Int)) (f : Nat → V) (hl : k ≤ 1000000) (he : ∀ i, i < k → ∀ D, eachK te m σ H D (.int (i : Int)) (f i)) (hq : ∀ D H3, H D = none → Same H H3 → H3 D = some (.lst ((List.range k).map f)) → Q (.ref D) H3) :
    lcR1K (gName m) tYes te [m] σ [.int j] H Q := by
  subst hk
  have key : ((List.range k).map fun (i : Nat) => V.int (i : Int)).map (fun v => match v with | .int z => f z.toNat | _ => .non) = (List.range k).map f := by rw [List.map_map]; rfl
  have len : ((List.range k).map fun (i : Nat) => V.int (i : Int)).length = k := by simp
  refine ⟨k, rfl, by omega, by omega, lc_each ((List.range k).map fun (i : Nat) => V.int (i : Int)) (fun v => match v with | .int z => f z.toNat | _ => .non) (Itr 0 (k : Int).toNat) (fun i H hi s => ?_) (fun i H x H2 hi s y => ?_) (fun H s => ?_) (by rw [len]; exact hl) (fun x hx D => ?_) (by rw [key]; exact hq)⟩
  · rw [len] at hi
    show i < (k : Int).toNat
    simpa using hi
  · obtain ⟨rfl, rfl⟩ := y
    rw [len] at hi
    refine ⟨rfl, ?_⟩
    rw [List.getElem?_map, List.getElem?_range hi]
    show some (V.int (i : Int)) = some (V.int (0 + (i : Int)))
    rw [Int.zero_add]
  · rw [len]
    show (k : Int).toNat ≤ k
    simp
  · obtain ⟨i, hi, rfl⟩ := List.mem_map.mp hx
    exact he i (by simpa using hi) D
end
/-! Fo, data as a whole: == of lists, tuples, texts and ints at any depth below 60, no truths within. -/
mutual
def clean : PyData → Bool
  | .none => true
  | .bool _ => false
  | .int _ => true
  | .str _ => true
  | .list xs => cleanAll xs
  | .tuple xs => cleanAll xs
  | .dict _ => false
def cleanAll : List PyData → Bool
  | [] => true
  | x :: xs => clean x && cleanAll xs
end
mutual
theorem eqv_is : ∀ d e : PyData, clean d = true → clean e = true → (PyData.eqv d e = true ↔ d = e)
  | .none, e, h, h' => by cases e <;> simp [PyData.eqv]
  | .bool b, e, h, h' => by simp [clean] at h
  | .int i, e, h, h' => by cases e <;> simp [PyData.eqv, clean] at h' ⊢
  | .str z, e, h, h' => by cases e <;> simp [PyData.eqv]
  | .list xs, e, h, h' => by
    cases e with
    | list ys =>
      simp only [clean] at h h'
      simp only [PyData.eqv, PyData.list.injEq]
      exact eqvAll_is xs ys h h'
    | _ => simp [PyData.eqv]
  | .tuple xs, e, h, h' => by
    cases e with
    | tuple ys =>
      simp only [clean] at h h'
      simp only [PyData.eqv, PyData.tuple.injEq]
      exact eqvAll_is xs ys h h'
    | _ => simp [PyData.eqv]
  | .dict _, e, h, h' => by simp [clean] at h
theorem eqvAll_is : ∀ xs ys : List PyData, cleanAll xs = true → cleanAll ys = true → (PyData.eqvAll xs ys = true ↔ xs = ys)
  | [], [], _, _ => by simp [PyData.eqvAll]
  | [], _ :: _, _, _ => by simp [PyData.eqvAll]
  | _ :: _, [], _, _ => by simp [PyData.eqvAll]
  | x :: xs, y :: ys, h, h' => by
    simp only [cleanAll, Bool.and_eq_true] at h h'
    simp only [PyData.eqvAll, Bool.and_eq_true, List.cons.injEq]
    rw [eqv_is x y h.1 h'.1, eqvAll_is xs ys h.2 h'.2]
end
/-- data that == compares as they stand -/
structure Okd (n : Nat) (d : PyData) : Prop where
  lay : d.canLay0 = true
  cl : clean d = true
  dp : d.depth ≤ n
theorem okd_non {n : Nat} : Okd n .none := ⟨rfl, by simp [clean], by simp [PyData.depth]⟩
theorem okd_int {n : Nat} {i : Int} : Okd n (.int i) := ⟨rfl, by simp [clean], by simp [PyData.depth]⟩
theorem okd_str {n : Nat} {z : Str} (h : PyData.strOk z = true) : Okd n (.str z) := ⟨by simpa [PyData.canLay0] using h, by simp [clean], by simp [PyData.depth]⟩
theorem okd_all {n : Nat} : ∀ {ds : List PyData}, (∀ d ∈ ds, Okd n d) → PyData.canLayAll0 ds = true ∧ cleanAll ds = true ∧ PyData.depthAll ds ≤ n
  | [], _ => by simp [PyData.canLayAll0, cleanAll, PyData.depthAll]
  | d :: ds, h => by
    obtain ⟨a, b, c⟩ := okd_all (ds := ds) fun e he => h e (List.mem_cons_of_mem _ he)
    have k := h d List.mem_cons_self
    refine ⟨?_, ?_, ?_⟩
    · simp [PyData.canLayAll0, k.lay, a]
    · simp [cleanAll, k.cl, b]
    · simp only [PyData.depthAll]
      have := k.dp
      omega
theorem okd_lst {n : Nat} {ds : List PyData} (h : ∀ d ∈ ds, Okd n d) : Okd (n + 1) (.list ds) := by
  obtain ⟨a, b, c⟩ := okd_all h
  exact ⟨by simpa [PyData.canLay0] using a, by simpa [clean] using b, by simp only [PyData.depth]; omega⟩
theorem okd_tup {n : Nat} {ds : List PyData} (h : ∀ d ∈ ds, Okd n d) : Okd (n + 1) (.tuple ds) := by
  obtain ⟨a, b, c⟩ := okd_all h
  exact ⟨by simpa [PyData.canLay0] using a, by simpa [clean] using b, by simp only [PyData.depth]; omega⟩
theorem okd_ints {n : Nat} {ns : List Int} : ∀ d ∈ ns.map PyData.int, Okd n d := fun d h => by
  obtain ⟨i, _, rfl⟩ := List.mem_map.mp h
  exact okd_int
theorem Okd.shaped {n : Nat} {d : PyData} (h : Okd n d) (hn : n ≤ 64) : SeqAt.shaped d = true := by
  unfold SeqAt.shaped
  rw [h.lay, Bool.true_and]
  exact decide_eq_true (Nat.le_trans h.dp hn)
section
variable {K : PySem.W.Frag} {H : Hp} {Q : VK} {x y : V} {d e : PyData} {n m : Nat} {b : Bool} {p q : Addr}
theorem g_sameD (hx : Dp K H x d) (hy : Dp K H y e) (od : Okd n d) (oe : Okd m e) (hn : n ≤ 64) (hm : m ≤ 64) (hb : b = true ↔ d = e) (k : Q (.bl b) H) : rSame K x y H Q := by
  refine .inr ⟨d, e, hx, hy, od.shaped hn, oe.shaped hm, ?_⟩
  have z : PyData.eqv d e = b := by
    rw [Bool.eq_iff_iff, eqv_is d e od.cl oe.cl, hb]
  rw [z]
  exact k
theorem g_diffD (hx : Dp K H x d) (hy : Dp K H y e) (od : Okd n d) (oe : Okd m e) (hn : n ≤ 64) (hm : m ≤ 64) (hb : b = true ↔ d = e) (k : Q (.bl (!b)) H) : rDiff K x y H Q := by
  refine .inr ⟨d, e, hx, hy, od.shaped hn, oe.shaped hm, ?_⟩
  have z : PyData.eqv d e = b := by
    rw [Bool.eq_iff_iff, eqv_is d e od.cl oe.cl, hb]
  rw [z]
  exact k
theorem dpAll_ints : ∀ {ns : List Int}, DpAll K H (ns.map V.int) (ns.map PyData.int)
  | [] => .nil
  | i :: ns => .cons (.int i) (dpAll_ints (ns := ns))
theorem map_int_inj {ns ms : List Int} : ns.map PyData.int = ms.map PyData.int ↔ ns = ms := by
  constructor
  · intro h
    induction ns generalizing ms with
    | nil => cases ms with
      | nil => rfl
      | cons => cases h
    | cons i ns ih => cases ms with
      | nil => cases h
      | cons j ms =>
        simp only [List.map_cons, List.cons.injEq, PyData.int.injEq] at h
        rw [h.1, ih h.2]
  · intro h; rw [h]
theorem g_sameLI {ns ms : List Int} (hx : SqL K H p (ns.map V.int)) (hy : SqL K H q (ms.map V.int)) (k : Q (.bl (decide (ns = ms))) H) : rSame K (.ref p) (.ref q) H Q :=
  g_sameD (n := 1) (m := 1) (.lst hx dpAll_ints) (.lst hy dpAll_ints) (okd_lst okd_ints) (okd_lst okd_ints) (by decide) (by decide) (by rw [decide_eq_true_iff, PyData.list.injEq, map_int_inj]) k
theorem g_diffLI {ns ms : List Int} (hx : SqL K H p (ns.map V.int)) (hy : SqL K H q (ms.map V.int)) (k : Q (.bl (!decide (ns = ms))) H) : rDiff K (.ref p) (.ref q) H Q :=
  g_diffD (n := 1) (m := 1) (.lst hx dpAll_ints) (.lst hy dpAll_ints) (okd_lst okd_ints) (okd_lst okd_ints) (by decide) (by decide) (by rw [decide_eq_true_iff, PyData.list.injEq, map_int_inj]) k
theorem g_sameTI {ns ms : List Int} (hx : SqT K H p (ns.map V.int)) (hy : SqT K H q (ms.map V.int)) (k : Q (.bl (decide (ns = ms))) H) : rSame K (.ref p) (.ref q) H Q :=
  g_sameD (n := 1) (m := 1) (.tup hx dpAll_ints) (.tup hy dpAll_ints) (okd_tup okd_ints) (okd_tup okd_ints) (by decide) (by decide) (by rw [decide_eq_true_iff, PyData.tuple.injEq, map_int_inj]) k
theorem g_diffTI {ns ms : List Int} (hx : SqT K H p (ns.map V.int)) (hy : SqT K H q (ms.map V.int)) (k : Q (.bl (!decide (ns = ms))) H) : rDiff K (.ref p) (.ref q) H Q :=
  g_diffD (n := 1) (m := 1) (.tup hx dpAll_ints) (.tup hy dpAll_ints) (okd_tup okd_ints) (okd_tup okd_ints) (by decide) (by decide) (by rw [decide_eq_true_iff, PyData.tuple.injEq, map_int_inj]) k
end
/-! ### slices of lists of anything -/
def cutL {α : Type} (xs : List α) (lo hi : Option Int) : List α := (xs.drop (HT.sIx xs.length 0 lo)).take (HT.sIx xs.length xs.length hi - HT.sIx xs.length 0 lo)
theorem cutV_map {α : Type} (f : α → V) (xs : List α) (lo hi : Option Int) : cutV (xs.map f) lo hi = (cutL xs lo hi).map f := by
  unfold cutV cutL
  rw [List.length_map, ← List.map_drop, ← List.map_take]
theorem cutL_len {α : Type} (xs : List α) (lo hi : Option Int) : (cutL xs lo hi).length ≤ xs.length := by
  unfold cutL
  rw [List.length_take, List.length_drop]
  omega
theorem cutL_sub {α : Type} (xs : List α) (lo hi : Option Int) {x : α} (h : x ∈ cutL xs lo hi) : x ∈ xs := List.mem_of_mem_drop (List.mem_of_mem_take h)
theorem cutL_to {α : Type} (xs : List α) (k : Nat) : cutL xs none (some (k : Int)) = xs.take k := by
  unfold cutL
  rw [HT.sIx_none, HT.sIx_nat]
  show List.take (min k xs.length - 0) xs = xs.take k
  rw [Nat.sub_zero, List.take_eq_take_iff]
  omega
theorem cutL_from {α : Type} (xs : List α) (k : Nat) : cutL xs (some (k : Int)) none = xs.drop k := by
  unfold cutL
  rw [HT.sIx_none, HT.sIx_nat]
  by_cases h : k ≤ xs.length
  · rw [Nat.min_eq_left h, List.take_of_length_le]
    rw [List.length_drop]
    omega
  · have e : min k xs.length = xs.length := by omega
    rw [e, List.drop_of_length_le (Nat.le_refl _), List.drop_of_length_le (by omega)]
    simp
theorem cutL_both {α : Type} (xs : List α) (i j : Nat) : cutL xs (some (i : Int)) (some (j : Int)) = (xs.drop i).take (j - i) := by
  unfold cutL
  rw [HT.sIx_nat, HT.sIx_nat]
  by_cases h : i ≤ xs.length
  · rw [Nat.min_eq_left h, List.take_eq_take_iff, List.length_drop]
    omega
  · have e : min i xs.length = xs.length := by omega
    rw [e, List.drop_of_length_le (Nat.le_refl _), List.drop_of_length_le (by omega)]
    simp
theorem cutL_butlast {α : Type} (xs : List α) : cutL xs none (some (-1)) = xs.dropLast := by
  unfold cutL
  rw [HT.sIx_none]
  show List.take (HT.sIx xs.length xs.length (some (-1)) - 0) xs = _
  rw [Nat.sub_zero, List.dropLast_eq_take]
  congr 1
  show (if (-1 : Int) < 0 then ((-1 : Int) + (xs.length : Int)).toNat else min (-1 : Int).toNat xs.length) = xs.length - 1
  rw [if_pos (by decide)]
  omega
theorem g_sameB {K : PySem.W.Frag} {H : Hp} {Q : VK} {p r : Addr} {bs cs : List Bool} {b : Bool} (hx : SqL K H p (bs.map V.bl)) (hy : SqL K H r (cs.map V.bl)) (s1 : SeqAt.shaped (.list (bs.map PyData.bool)) = true) (s2 : SeqAt.shaped (.list (cs.map PyData.bool)) = true)
    (h : PyData.eqv (.list (bs.map PyData.bool)) (.list (cs.map PyData.bool)) = b) (q : Q (.bl b) H) : rSame K (.ref p) (.ref r) H Q := by
  have dp : ∀ bs : List Bool, DpAll K H (bs.map V.bl) (bs.map PyData.bool) := fun bs => by
    induction bs with
    | nil => exact .nil
    | cons b bs ih => exact .cons (.bl b) ih
  exact .inr ⟨_, _, .lst hx (dp bs), .lst hy (dp cs), s1, s2, by rw [h]; exact q⟩
theorem g_diffB {K : PySem.W.Frag} {H : Hp} {Q : VK} {p r : Addr} {bs cs : List Bool} {b : Bool} (hx : SqL K H p (bs.map V.bl)) (hy : SqL K H r (cs.map V.bl)) (s1 : SeqAt.shaped (.list (bs.map PyData.bool)) = true) (s2 : SeqAt.shaped (.list (cs.map PyData.bool)) = true)
    (h : PyData.eqv (.list (bs.map PyData.bool)) (.list (cs.map PyData.bool)) = b) (q : Q (.bl (!b)) H) : rDiff K (.ref p) (.ref r) H Q := by
  have dp : ∀ bs : List Bool, DpAll K H (bs.map V.bl) (bs.map PyData.bool) := fun bs => by
    induction bs with
    | nil => exact .nil
    | cons b bs ih => exact .cons (.bl b) ih
  exact .inr ⟨_, _, .lst hx (dp bs), .lst hy (dp cs), s1, s2, by rw [h]; exact q⟩
/-! Fo, objects: fields of own classes, calls of methods, what stays when some things change. -/
class HasCls (K : PySem.W.Frag) (C : Str) : Prop where h : Cls K (He.ga K C)
class HasNo (K : PySem.W.Frag) (C f : Str) : Prop where h : NoAttr K (He.ga K C) f
/-- all but what M names stays; nothing goes -/
structure SameX (M : Addr → Prop) (H H1 : Hp) : Prop where
  kp : ∀ b o, ¬ M b → H b = some o → H1 b = some o
  dm : ∀ b, H1 b = none → H b = none
theorem upd_none {H : Hp} {a b : Addr} {o : HO} (h : upd H a o b = none) : H b = none := by
  by_cases e : b = a
  · rw [e, upd_same] at h; cases h
  · rw [upd_ne e] at h; exact h
theorem upd_upd {H : Hp} {a : Addr} {o u : HO} : upd (upd H a o) a u = upd H a u := by
  funext b
  by_cases e : b = a
  · rw [e, upd_same, upd_same]
  · rw [upd_ne e, upd_ne e, upd_ne e]
theorem SameX.refl {M : Addr → Prop} (H : Hp) : SameX M H H := ⟨fun _ _ _ h => h, fun _ h => h⟩
theorem SameX.of {M : Addr → Prop} {H H1 : Hp} (s : Same H H1) : SameX M H H1 := ⟨fun b o _ h => s b o h, fun _ h => s.free h⟩
theorem SameX.trans {M : Addr → Prop} {H H1 H2 : Hp} (s : SameX M H H1) (t : SameX M H1 H2) : SameX M H H2 := ⟨fun b o n h => t.kp b o n (s.kp b o n h), fun b h => s.dm b (t.dm b h)⟩
theorem SameX.mono {M N : Addr → Prop} {H H1 : Hp} (s : SameX M H H1) (h : ∀ b, M b → N b) : SameX N H H1 := ⟨fun b o n e => s.kp b o (fun m => n (h b m)) e, s.dm⟩
/-- what M names besides was not there -/
theorem SameX.mono' {M N : Addr → Prop} {H H1 : Hp} (s : SameX M H H1) (h : ∀ b, M b → H b ≠ none → N b) : SameX N H H1 := ⟨fun b o n e => s.kp b o (fun m => n (h b m (by rw [e]; exact fun z => nomatch z))) e, s.dm⟩
theorem SameX.mut {M : Addr → Prop} {H H1 : Hp} {a : Addr} {o : HO} (s : SameX M H H1) (h : M a) : SameX M H (upd H1 a o) :=
  ⟨fun b u n e => by rw [upd_ne (fun z : b = a => n (by rw [z]; exact h))]; exact s.kp b u n e, fun b e => s.dm b (upd_none e)⟩
theorem SameX.new {M : Addr → Prop} {H H1 : Hp} {a : Addr} {o : HO} (s : SameX M H H1) (h : H1 a = none) : SameX M H (upd H1 a o) :=
  ⟨fun b u n e => lk_new (s.kp b u n e) h, fun b e => s.dm b (upd_none e)⟩
theorem SameX.newmut {M : Addr → Prop} {H H1 : Hp} {a : Addr} {o : HO} (s : SameX M H H1) (h : H a = none) : SameX M H (upd H1 a o) :=
  ⟨fun b u n e => lk_mut (ne_of_none e h) (s.kp b u n e), fun b e => s.dm b (upd_none e)⟩
theorem SameX.same {H H1 : Hp} (s : SameX (fun _ => False) H H1) : Same H H1 := fun b o h => s.kp b o (fun z => z) h
theorem SameX.lk {M : Addr → Prop} {H H1 : Hp} {a : Addr} {o : HO} (s : SameX M H H1) (n : ¬ M a) (h : H a = some o) : H1 a = some o := s.kp a o n h
theorem SameX.seq {K : PySem.W.Frag} {M : Addr → Prop} {H H1 : Hp} {a : Addr} {xs : List V} (s : SameX M H H1) (n : ¬ M a) (h : SqL K H a xs) : SqL K H1 a xs := by
  rcases h with (h | ⟨v, h⟩) | h
  · exact .inl (.inl (s.kp _ _ n h))
  · exact .inl (.inr ⟨v, s.kp _ _ n h⟩)
  · exact .inr h
theorem SameX.tup {K : PySem.W.Frag} {M : Addr → Prop} {H H1 : Hp} {a : Addr} {xs : List V} (s : SameX M H H1) (n : ¬ M a) (h : SqT K H a xs) : SqT K H1 a xs := by
  rcases h with (h | ⟨v, h⟩) | h
  · exact .inl (.inl (s.kp _ _ n h))
  · exact .inl (.inr ⟨v, s.kp _ _ n h⟩)
  · exact .inr h
/-- what is changed was not there at first -/
theorem SameX.back {M : Addr → Prop} {H H1 H2 : Hp} (s0 : Same H H1) (s : SameX M H1 H2) (h : ∀ b, M b → H b = none) : Same H H2 := fun b o e => s.kp b o (fun m => by rw [h b m] at e; cases e) (s0 b o e)
theorem SameX.back1 {a : Addr} {H H1 H2 : Hp} (s0 : Same H H1) (s : SameX (· = a) H1 H2) (h : H a = none) : Same H H2 := s.back s0 fun b m => by rw [m]; exact h
/-- another kind of thing stands there -/
theorem ne_kind {H : Hp} {a b : Addr} {o u : HO} (h : H a = some o) (k : H b = some u) (d : o ≠ u) : a ≠ b := fun e => d (Option.some.inj (by rw [← h, ← k, e]))
/-! ### fields -/
theorem putF_nil {f : Str} {v : V} : putF f v [] = [(f, v)] := rfl
theorem putF_hit {f : Str} {v u : V} {r : List (Str × V)} : putF f v ((f, u) :: r) = (f, v) :: r := by simp [putF]
theorem putF_far {f g : Str} {v u : V} {r r' : List (Str × V)} (h : g ≠ f) (k : putF f v r = r') : putF f v ((g, u) :: r) = (g, u) :: r' := by
  subst k
  show (if g = f then _ else _) = _
  rw [if_neg h]
def mthK (m : Str) (ms : Addr → Sp → Prop) (x : V) (H : Hp) (A : Sp → Prop) : Prop := ∃ a C dx fs sp, x = .ref a ∧ H a = some (.ins C dx fs) ∧ ms C sp ∧ fs.lookup m = none ∧ A sp
def augK (K : PySem.W.Frag) (tv : TE) (rd : V → V → Hp → VK → Prop) (f : Str) (x : V) (σ : St) (H : Hp) (n : Hp → Prop) : Prop := ∃ a C dx fs v, x = .ref a ∧ H a = some (.ins C dx fs) ∧ Cls K C ∧ NoAttr K C f ∧ fs.lookup f = some v ∧
  tv σ H fun y H2 => rd v y H2 fun z H3 => ∃ dx' fs', H3 a = some (.ins C dx' fs') ∧ fs'.length < 1000 ∧ n (upd H3 a (.ins C dx' (putF f z fs')))
def putK (f : Str) (C a : Addr) (z : V) (H : Hp) (n : Hp → Prop) : Prop := ∃ dx' fs', H a = some (.ins C dx' fs') ∧ fs'.length < 1000 ∧ n (upd H a (.ins C dx' (putF f z fs')))
/-- a turn of a while loop, its measure m -/
def whK (W : Nat → St → Hp → Prop) (m : Nat) (tb : TS) (n : St → Hp → Prop) (rt : VK) (σ : St) (H : Hp) : Prop := ∃ N : St → Hp → Prop, (∀ σ' H', N σ' H' → ∃ m', m' < m ∧ W m' σ' H') ∧ tb ⟨N, rt, n, N⟩ σ H
section
variable {K : PySem.W.Frag} {σ : St} {H H' : Hp} {Q : VK} {te ta tv : TE} {tl : TA} {x y v : V} {i j : Int} {rd : V → V → Hp → VK → Prop}
variable {n : St → Hp → Prop} {nH : Hp → Prop} {rt : VK} {bk ct : St → Hp → Prop} {p dx C' : Addr} {fs fs' : List (Str × V)} {C f m : Str} {sp : Sp}
theorem g_mthd {ms : Addr → Sp → Prop} {E : St → XK} (q : te σ H fun x H1 => mthK m ms x H1 fun sp => tl σ H1 fun vs H2 => sp (x :: vs) H2 Q (E σ)) : tMth m ms E te tl σ H Q := q
theorem g_one {A : Sp → Prop} (h : H p = some (.ins C' dx fs)) (hl : fs.lookup m = none) (q : A sp) : mthK m (one C' sp) (.ref p) H A := ⟨p, C', dx, fs, sp, rfl, h, ⟨rfl, rfl⟩, hl, q⟩
theorem g_oneD {A : Sp → Prop} {dvs : List V} (h : H p = some (.ins C' dx fs)) (hl : fs.lookup m = none) (q : A (fun vs H Q E => sp (vs ++ dvs) H Q E)) : mthK m (oneD C' sp dvs) (.ref p) H A := ⟨p, C', dx, fs, _, rfl, h, ⟨rfl, rfl⟩, hl, q⟩
theorem g_orA {A : Sp → Prop} {m1 m2 : Addr → Sp → Prop} (q : mthK m m1 x H A) : mthK m (orM m1 m2) x H A := by
  obtain ⟨a, C, dx, fs, sp, e, h, k, l, q⟩ := q
  exact ⟨a, C, dx, fs, sp, e, h, .inl k, l, q⟩
theorem g_orB {A : Sp → Prop} {m1 m2 : Addr → Sp → Prop} (q : mthK m m2 x H A) : mthK m (orM m1 m2) x H A := by
  obtain ⟨a, C, dx, fs, sp, e, h, k, l, q⟩ := q
  exact ⟨a, C, dx, fs, sp, e, h, .inr k, l, q⟩
theorem g_fldA (h : H p = some (.ins (He.ga K C) dx fs)) (hl : fs.lookup f = some v) (c : HasCls K C) (o : HasNo K C f) (q : Q v H) : fldK K f (.ref p) H Q := g_fldK h c.h o.h hl q
theorem g_stoA (h : H p = some (.ins (He.ga K C) dx fs)) (hl : fs.length < 1000) (e : putF f y fs = fs') (c : HasCls K C) (o : HasNo K C f) (q : nH (upd H p (.ins (He.ga K C) dx fs'))) : stoK K f y (.ref p) H nH := by
  subst e
  exact g_stoK h c.h o.h hl q
theorem g_stoU (hl : fs.length < 1000) (e : putF f y fs = fs') (c : HasCls K C) (o : HasNo K C f) (q : nH (upd H p (.ins (He.ga K C) dx fs'))) : stoK K f y (.ref p) (upd H p (.ins (He.ga K C) dx fs)) nH := by
  refine g_stoA (C := C) upd_same hl e c o ?_
  rw [upd_upd]
  exact q
theorem g_fldaug (q : ta σ H fun x H1 => augK K tv rd f x σ H1 fun H2 => n σ H2) : sFldAug K ta tv rd f ⟨n, rt, bk, ct⟩ σ H := q
theorem g_augA (h : H p = some (.ins (He.ga K C) dx fs)) (hl : fs.lookup f = some v) (c : HasCls K C) (o : HasNo K C f) (q : tv σ H fun y H2 => rd v y H2 fun z H3 => putK f (He.ga K C) p z H3 nH) : augK K tv rd f (.ref p) σ H nH :=
  ⟨p, _, dx, fs, v, rfl, h, c.h, o.h, hl, q⟩
theorem g_putA (h : H p = some (.ins C' dx fs)) (hl : fs.length < 1000) (e : putF f y fs = fs') (q : nH (upd H p (.ins C' dx fs'))) : putK f C' p y H nH := by
  subst e
  exact ⟨dx, fs, h, hl, q⟩
theorem g_putU (hl : fs.length < 1000) (e : putF f y fs = fs') (q : nH (upd H p (.ins C' dx fs'))) : putK f C' p y (upd H p (.ins C' dx fs)) nH := by
  refine g_putA upd_same hl e ?_
  rw [upd_upd]
  exact q
theorem g_iadd (q : Q (.int (i + j)) H) : L2.rAdd (.int i) (.int j) H Q := ⟨i, j, rfl, rfl, q⟩
theorem g_isub (q : Q (.int (i - j)) H) : L2.rSub (.int i) (.int j) H Q := ⟨i, j, rfl, rfl, q⟩
theorem g_while {tc : TT} {tb : TS} (W : Nat → St → Hp → Prop) (m : Nat) (w0 : W m σ H) (hs : ∀ m σ H, W m σ H → tc σ H fun b H1 => if b = true then whK W m tb n rt σ H1 else n σ H1) : tWhile tc tb ⟨n, rt, bk, ct⟩ σ H :=
  ⟨W, ⟨m, w0⟩, fun m σ H w => hs m σ H w⟩
theorem g_whK {tb : TS} {W : Nat → St → Hp → Prop} {m : Nat} (q : tb ⟨fun σ' H' => ∃ m', m' < m ∧ W m' σ' H', rt, n, fun σ' H' => ∃ m', m' < m ∧ W m' σ' H'⟩ σ H) : whK W m tb n rt σ H := ⟨_, fun _ _ h => h, q⟩
theorem g_asgT {g : TG} (q : te σ H fun x H1 => g x σ H1 n) : tAsg te g ⟨n, rt, bk, ct⟩ σ H := q
theorem g_gname {k : Nat} (q : asgn k n v σ H) : gName k v σ H n := q
theorem g_gtup {k : Nat} {t : TGs} {xs : List V} (h : SqT K H p xs) (hl : xs.length = k) (q : t xs σ H n) : gTup K k t (.ref p) σ H n := ⟨p, xs, rfl, h, hl, q⟩
theorem g_gcons {a : TG} {t : TGs} {xs : List V} (q : a v σ H fun σ1 H1 => t xs σ1 H1 n) : gCons a t (v :: xs) σ H n := ⟨v, xs, rfl, q⟩
theorem g_gnil (q : n σ H) : gNil [] σ H n := ⟨rfl, q⟩
theorem g_gsub {to ti : TE} {t : TSet} (q : to σ H fun o H1 => ti σ H1 fun i H2 => t o i v H2 fun H3 => n σ H3) : gSub to ti t v σ H n := q
theorem g_powE {e : Int} (h : CPow i j) (he : i ^ j.toNat = e) (q : Q (.int e) H) : L2.rI CPow (fun i j => .int (i ^ j.toNat)) (.int i) (.int j) H Q := ⟨i, j, rfl, rfl, h, by subst he; exact q⟩
theorem g_powE' {e : Int} (h : CPow i j) (he : i ^ j.toNat = e) (q : Q (.int e) H) : rPow (.int i) (.int j) H Q := g_powE h he q
theorem g_lshE {e : Int} (h : CShl i j) (he : (2 : Int) ^ j.toNat = e) (q : Q (.int (i * e)) H) : rLsh (.int i) (.int j) H Q := ⟨i, j, rfl, rfl, h, by subst he; exact q⟩
theorem g_rshE {e : Int} (h : 0 ≤ j) (he : (2 : Int) ^ j.toNat = e) (q : Q (.int (i / e)) H) : rRsh (.int i) (.int j) H Q := ⟨i, j, rfl, rfl, h, by subst he; exact q⟩
theorem g_mul (h : (-(2 ^ 64) < i ∧ i < 2 ^ 64) ∨ (-(2 ^ 64) < j ∧ j < 2 ^ 64)) (q : Q (.int (i * j)) H) : rTimes (.int i) (.int j) H Q := g_times (CMul.ok h) q
theorem g_p15 (q : Q (.int 1000000000000000) H) : rPow (.int 10) (.int 15) H Q := g_powE' ⟨by decide, by decide, by decide⟩ (by decide) q
theorem g_p60 (q : Q (.int (10 ^ 60)) H) : rPow (.int 10) (.int 60) H Q := g_powE' ⟨by decide, by decide, by decide⟩ (by decide) q
theorem g_m1 {F : V → Hp → VK → XK → Prop} {a : V} {E : XK} (q : F a H Q E) : on1 F [a] H Q E := ⟨a, rfl, q⟩
theorem g_k1 {F : V → Hp → VK → XK → Prop} {a : V} {E : XK} (q : F a H Q E) : on1 F (a :: ([] ++ [])) H Q E := ⟨a, rfl, q⟩
theorem g_m2 {F : V → V → Hp → VK → XK → Prop} {a b : V} {E : XK} (q : F a b H Q E) : on2 F [a, b] H Q E := ⟨a, b, rfl, q⟩
theorem g_k2 {F : V → V → Hp → VK → XK → Prop} {a b : V} {E : XK} (q : F a b H Q E) : on2 F (a :: ([b] ++ [])) H Q E := ⟨a, b, rfl, q⟩
theorem g_m3 {F : V → V → V → Hp → VK → XK → Prop} {a b c : V} {E : XK} (q : F a b c H Q E) : on3 F [a, b, c] H Q E := ⟨a, b, c, rfl, q⟩
theorem g_k3 {F : V → V → V → Hp → VK → XK → Prop} {a b c : V} {E : XK} (q : F a b c H Q E) : on3 F (a :: ([b, c] ++ [])) H Q E := ⟨a, b, c, rfl, q⟩
theorem g_m4 {F : V → V → V → V → Hp → VK → XK → Prop} {a b c d : V} {E : XK} (q : F a b c d H Q E) : on4 F [a, b, c, d] H Q E := ⟨a, b, c, d, rfl, q⟩
theorem g_k4 {F : V → V → V → V → Hp → VK → XK → Prop} {a b c d : V} {E : XK} (q : F a b c d H Q E) : on4 F (a :: ([b, c, d] ++ [])) H Q E := ⟨a, b, c, d, rfl, q⟩
theorem g_m5 {F : V → V → V → V → V → Hp → VK → XK → Prop} {a b c d e : V} {E : XK} (q : F a b c d e H Q E) : on5 F [a, b, c, d, e] H Q E := ⟨a, b, c, d, e, rfl, q⟩
theorem g_k5 {F : V → V → V → V → V → Hp → VK → XK → Prop} {a b c d e : V} {E : XK} (q : F a b c d e H Q E) : on5 F (a :: ([b, c, d, e] ++ [])) H Q E := ⟨a, b, c, d, e, rfl, q⟩
theorem difNY {c A B : Prop} [Decidable c] (h : c) (q : B) : if (!decide c) = true then A else B := by rw [decide_eq_true h]; exact iteF q
theorem difNX {c A B : Prop} [Decidable c] (h : ¬ c) (q : A) : if (!decide c) = true then A else B := by rw [decide_eq_false h]; exact iteT q
end
theorem at0 {u : V} {r : List V} : atI (u :: r) 0 = some u := atI_nat (j := 0) rfl
theorem at1 {u v : V} {r : List V} : atI (u :: v :: r) 1 = some v := atI_nat (j := 1) rfl
theorem at2 {u v w : V} {r : List V} : atI (u :: v :: w :: r) 2 = some w := atI_nat (j := 2) rfl
theorem at3 {u v w x : V} {r : List V} : atI (u :: v :: w :: x :: r) 3 = some x := atI_nat (j := 3) rfl
/-! ### enumerate -/
def forEK (K : PySem.W.Frag) (g : TG) (tb : TS) (n : St → Hp → Prop) (rt : VK) (σ : St) (vs : List V) (H : Hp) : Prop := ∃ a xs, vs = [.ref a] ∧ SqL K H a xs ∧ forJ (Ite K a) g tb n rt σ H
section
variable {K : PySem.W.Frag} {σ σ' : St} {H H' : Hp} {ta : TA} {tb : TS} {g : TG} {n : St → Hp → Prop} {rt : VK} {bk ct : St → Hp → Prop} {a : Addr} {xs : List V} {m1 m2 : Nat}
theorem g_forE (q : ta σ H fun vs H1 => forEK K g tb n rt σ vs H1) : tFor (iEnum K ta) g tb ⟨n, rt, bk, ct⟩ σ H := q
theorem for_E (hs : SqL K H a xs) (Pv : Nat → St → Hp → Prop) (h0 : Pv 0 σ H) (hl : ∀ i σ H, Pv i σ H → SqL K H a xs)
    (ht : ∀ i x σ H T, xs[i]? = some x → H T = none → Pv i σ H → asgn m1 (fun σ1 H1 => asgn m2 (fun σ2 H2 => tb ⟨Pv (i + 1), rt, n, Pv (i + 1)⟩ σ2 H2) x σ1 H1) (.int (i : Int)) σ (upd H T (.tup [.int (i : Int), x])))
    (hd : ∀ σ H, Pv xs.length σ H → n σ H) : forEK K (gTup K 2 (gCons (gName m1) (gCons (gName m2) gNil))) tb n rt σ [.ref a] H := by
  refine ⟨a, xs, rfl, hs, fun i m σ H => m = xs.length - i ∧ i ≤ xs.length ∧ Pv i σ H, ⟨xs.length, rfl, Nat.zero_le _, h0⟩, ?_⟩
  rintro i m σ H ⟨rfl, hi, p⟩
  by_cases hlt : i < xs.length
  · refine .inr ⟨⟨xs, xs[i], hl i σ H p, List.getElem?_eq_getElem hlt⟩, fun σ' H' => Pv (i + 1) σ' H', fun σ' H' q => ⟨xs.length - (i + 1), by omega, rfl, hlt, q⟩, fun v H' hy => ?_⟩
    obtain ⟨T, x, rfl, nT, rfl, ex⟩ := hy
    have ex := ex xs (hl i σ H p)
    exact ⟨T, [.int (i : Int), x], rfl, stt_of upd_same, rfl, _, _, rfl, _, _, rfl, rfl, ht i x σ H T ex nT p⟩
  · have e : i = xs.length := by omega
    subst e
    exact .inl ⟨⟨xs, hl _ σ H p, Nat.le_refl _⟩, hd σ H p⟩
theorem for_EI {ns : List Int} (hs : SqL K H a (ns.map V.int)) (Pv : Nat → St → Hp → Prop) (h0 : Pv 0 σ H) (hl : ∀ i σ H, Pv i σ H → SqL K H a (ns.map V.int))
    (ht : ∀ i z σ H T, ns[i]? = some z → H T = none → Pv i σ H → asgn m1 (fun σ1 H1 => asgn m2 (fun σ2 H2 => tb ⟨Pv (i + 1), rt, n, Pv (i + 1)⟩ σ2 H2) (.int z) σ1 H1) (.int (i : Int)) σ (upd H T (.tup [.int (i : Int), .int z])))
    (hd : ∀ σ H, Pv ns.length σ H → n σ H) : forEK K (gTup K 2 (gCons (gName m1) (gCons (gName m2) gNil))) tb n rt σ [.ref a] H := by
  refine for_E hs Pv h0 hl (fun i x σ H T hx hT p => ?_) fun σ H p => hd σ H (by rw [List.length_map] at p; exact p)
  obtain ⟨z, hz, rfl⟩ := map_at hx
  exact ht i z σ H T hz hT p
end
/-! ### isinstance of own classes -/
class HasIns (K : PySem.W.Frag) (C : Str) : Prop where
  ha : PySem.W.findIn K (.ref (He.ga K C)) "__class__" = some (some (.builtin "object.__class__"))
  hn : PySem.W.specialIn K (.builtin "object.__class__") "__get__" = some (some (.builtin "getset_descriptor.__get__"))
  ht : PySem.W.takesIn K (.builtin "object.__class__") = some true
  hm : PySem.W.mroIn K (He.ga K C) (.type "object") = some true
class HasKit (K : PySem.W.Frag) (C D : Str) (b : outParam Bool) : Prop where h : PySem.W.kitOne K (.ref (He.ga K C)) (.ref (He.ga K D)) = some b
theorem ty_ins {K : PySem.W.Frag} {H : Hp} {a dx : Addr} {C : Str} {fs : List (Str × V)} [c : HasCls K C] [i : HasIns K C] (h : H a = some (.ins (He.ga K C) dx fs)) : TyX K H (.ref a) (.ref (He.ga K C)) := .base (.ins h c.h i.ha i.hn i.ht i.hm)
theorem g_isiC {K : PySem.W.Frag} {H : Hp} {Q : VK} {a dx : Addr} {C D : Str} {b : Bool} {fs : List (Str × V)} [HasCls K C] [HasIns K C] [k : HasKit K C D b] (h : H a = some (.ins (He.ga K C) dx fs)) (q : Q (.bl b) H) : rIsi2 K [.ref a, .ref (He.ga K D)] H Q :=
  .inl ⟨.ref a, .ref (He.ga K D), .ref (He.ga K C), .ref (He.ga K D), b, rfl, .own _, ty_ins h, k.h, q⟩
/-! ### shifts of 1 -/
theorem g_sh15 {H : Hp} {Q : VK} (q : Q (.int 32768) H) : rLsh (.int 1) (.int 15) H Q := g_lshE (e := 32768) ⟨by decide, by decide⟩ (by decide) (by simpa using q)
theorem g_sh16 {H : Hp} {Q : VK} (q : Q (.int 65536) H) : rLsh (.int 1) (.int 16) H Q := g_lshE (e := 65536) ⟨by decide, by decide⟩ (by decide) (by simpa using q)
theorem g_sh23 {H : Hp} {Q : VK} (q : Q (.int 8388608) H) : rLsh (.int 1) (.int 23) H Q := g_lshE (e := 8388608) ⟨by decide, by decide⟩ (by decide) (by simpa using q)
theorem g_sh24 {H : Hp} {Q : VK} (q : Q (.int 16777216) H) : rLsh (.int 1) (.int 24) H Q := g_lshE (e := 16777216) ⟨by decide, by decide⟩ (by decide) (by simpa using q)
theorem g_sh40 {H : Hp} {Q : VK} (q : Q (.int 1099511627776) H) : rLsh (.int 1) (.int 40) H Q := g_lshE (e := 1099511627776) ⟨by decide, by decide⟩ (by decide) (by simpa using q)
theorem g_sh48 {H : Hp} {Q : VK} (q : Q (.int 281474976710656) H) : rLsh (.int 1) (.int 48) H Q := g_lshE (e := 281474976710656) ⟨by decide, by decide⟩ (by decide) (by simpa using q)
theorem g_p30 {H : Hp} {Q : VK} (q : Q (.int 1000000000000000000000000000000) H) : rPow (.int 10) (.int 30) H Q := g_powE' ⟨by decide, by decide, by decide⟩ (by decide) q
/-! Fo, zip: loops and comprehensions over two lists of ints. -/
def forZK (K : PySem.W.Frag) (g : TG) (tb : TS) (n : St → Hp → Prop) (rt : VK) (σ : St) (vs : List V) (H : Hp) : Prop := ∃ a b xs ys, vs = [.ref a, .ref b] ∧ SqL K H a xs ∧ SqL K H b ys ∧ forJ (Itz K a b) g tb n rt σ H
def lcZK (K : PySem.W.Frag) (g : TG) (tt : TT) (te : TE) (us : List Nat) (σ : St) (vs : List V) (H : Hp) (Q : VK) : Prop := ∃ a b xs ys, vs = [.ref a, .ref b] ∧ SqL K H a xs ∧ SqL K H b ys ∧ lcJ (Itz K a b) g tt te us σ H Q
def eachZ (te : TE) (m1 m2 : Nat) (σ : St) (H1 : Hp) (w c : Int) (y : V) : Prop :=
  ∀ H2 Q, Same H1 H2 → (∀ H3, Same H2 H3 → Q y H3) → asgn m1 (fun σ1 H' => asgn m2 (fun σ2 H'' => te σ2 H'' Q) (.int c) σ1 H') (.int w) ((σ.set m2 none).set m1 none) H2
section
variable {K : PySem.W.Frag} {σ σ' : St} {H H' : Hp} {Q : VK} {te : TE} {ta : TA} {tb : TS} {g : TG} {n : St → Hp → Prop} {rt : VK} {bk ct : St → Hp → Prop} {a b : Addr} {ws cs : List Int} {m1 m2 : Nat} {i : Nat} {x y : V}
theorem g_forZ (q : ta σ H fun vs H1 => forZK K g tb n rt σ vs H1) : tFor (iZip K ta) g tb ⟨n, rt, bk, ct⟩ σ H := q
theorem g_lcZ {tt : TT} {us : List Nat} (q : ta σ H fun vs H1 => lcZK K g tt te us σ vs H1 Q) : tLc (iZip K ta) g tt te us σ H Q := q
theorem zip_at (hw : SqL K H a (ws.map V.int)) (hc : SqL K H b (cs.map V.int)) (hx : ∀ xs, SqL K H a xs → xs[i]? = some x) (hy : ∀ ys, SqL K H b ys → ys[i]? = some y) : ∃ w c, ws[i]? = some w ∧ cs[i]? = some c ∧ x = .int w ∧ y = .int c := by
  obtain ⟨w, ew, rfl⟩ := map_at (hx _ hw)
  obtain ⟨c, ec, rfl⟩ := map_at (hy _ hc)
  exact ⟨w, c, ew, ec, rfl, rfl⟩
theorem for_ZI (hs : SqL K H a (ws.map V.int)) (hc : SqL K H b (cs.map V.int)) (hl : ws.length = cs.length) (Pv : Nat → St → Hp → Prop) (h0 : Pv 0 σ H) (hk : ∀ i σ H, Pv i σ H → SqL K H a (ws.map V.int) ∧ SqL K H b (cs.map V.int))
    (ht : ∀ i w c σ H T, ws[i]? = some w → cs[i]? = some c → H T = none → Pv i σ H → asgn m1 (fun σ1 H1 => asgn m2 (fun σ2 H2 => tb ⟨Pv (i + 1), rt, n, Pv (i + 1)⟩ σ2 H2) (.int c) σ1 H1) (.int w) σ (upd H T (.tup [.int w, .int c])))
    (hd : ∀ σ H, Pv ws.length σ H → n σ H) : forZK K (gTup K 2 (gCons (gName m1) (gCons (gName m2) gNil))) tb n rt σ [.ref a, .ref b] H := by
  refine ⟨a, b, _, _, rfl, hs, hc, fun i m σ H => m = ws.length - i ∧ i ≤ ws.length ∧ Pv i σ H, ⟨ws.length, rfl, Nat.zero_le _, h0⟩, ?_⟩
  rintro i m σ H ⟨rfl, hi, p⟩
  obtain ⟨ka, kb⟩ := hk i σ H p
  by_cases hlt : i < ws.length
  · refine .inr ⟨⟨_, _, .int ws[i], .int (cs[i]'(hl ▸ hlt)), ka, kb, ?_, ?_⟩, fun σ' H' => Pv (i + 1) σ' H', fun σ' H' q => ⟨ws.length - (i + 1), by omega, rfl, hlt, q⟩, fun v H' hy => ?_⟩
    · rw [List.getElem?_map, List.getElem?_eq_getElem hlt]; rfl
    · rw [List.getElem?_map, List.getElem?_eq_getElem (hl ▸ hlt)]; rfl
    obtain ⟨T, x, y, rfl, nT, rfl, ex, ey⟩ := hy
    obtain ⟨w, c, ew, ec, rfl, rfl⟩ := zip_at ka kb ex ey
    exact ⟨T, [.int w, .int c], rfl, stt_of upd_same, rfl, _, _, rfl, _, _, rfl, rfl, ht i w c σ H T ew ec nT p⟩
  · have e : i = ws.length := by omega
    subst e
    exact .inl ⟨⟨_, _, ka, kb, .inl (by rw [List.length_map]; exact Nat.le_refl _)⟩, hd σ H p⟩
theorem wipe2 (hne : m1 ≠ m2) (x y : Option V) : wipe (((wipe σ [m1, m2]).set m1 x).set m2 y) [m1, m2] = wipe σ [m1, m2] := by
  show ((((((σ.set m2 none).set m1 none).set m1 x).set m2 y).set m2 none).set m1 none) = ((σ.set m2 none).set m1 none)
  rw [List.set_set, List.set_set, List.set_comm x none hne, List.set_set, List.set_set]
theorem lc_ZI (hs : SqL K H a (ws.map V.int)) (hc : SqL K H b (cs.map V.int)) (hl : ws.length = cs.length) (hne : m1 ≠ m2) (f : Int → Int → V) (hb : ws.length ≤ 1000000)
    (he : ∀ w c, w ∈ ws → c ∈ cs → eachZ te m1 m2 σ H w c (f w c)) (hq : ∀ D H3, H D = none → Same H H3 → H3 D = some (.lst (List.zipWith f ws cs)) → Q (.ref D) H3) :
    lcZK K (gTup K 2 (gCons (gName m1) (gCons (gName m2) gNil))) tYes te [m1, m2] σ [.ref a, .ref b] H Q := by
  refine ⟨a, b, _, _, rfl, hs, hc, fun D hD => ?_⟩
  refine ⟨fun i k H3 => k = ws.length - i ∧ i ≤ ws.length ∧ Same H H3 ∧ H3 D = some (.lst (List.zipWith f (ws.take i) (cs.take i))), ⟨ws.length, rfl, Nat.zero_le _, same_new (Same.refl _) hD, upd_same⟩, ?_⟩
  rintro i k H3 ⟨rfl, hi, s, e⟩
  have ka := s.seq hs
  have kb := s.seq hc
  by_cases hlt : i < ws.length
  · refine .inr ⟨⟨_, _, .int ws[i], .int (cs[i]'(hl ▸ hlt)), ka, kb, ?_, ?_⟩, fun H4 => Same H H4 ∧ H4 D = some (.lst (List.zipWith f (ws.take (i + 1)) (cs.take (i + 1)))), fun H4 p => ⟨ws.length - (i + 1), by omega, rfl, hlt, p⟩, fun v H4 hy => ?_⟩
    · rw [List.getElem?_map, List.getElem?_eq_getElem hlt]; rfl
    · rw [List.getElem?_map, List.getElem?_eq_getElem (hl ▸ hlt)]; rfl
    obtain ⟨T, x, y, rfl, nT, rfl, ex, ey⟩ := hy
    obtain ⟨w, c, ew, ec, rfl, rfl⟩ := zip_at ka kb ex ey
    refine ⟨T, [.int w, .int c], rfl, stt_of upd_same, rfl, _, _, rfl, _, _, rfl, rfl, wipe2 hne _ _, ?_⟩
    have yes : ∀ {A B : Prop}, A → if true = true then A else B := fun h => iteT h
    refine yes (B := ((fun H2 => Same H H2 ∧ H2 D = some (HO.lst (List.zipWith f (ws.take (i + 1)) (cs.take (i + 1))))) (upd H3 T (.tup [.int w, .int c])))) ?_
    have nTD : D ≠ T := ne_of_none e nT
    refine he w c (List.mem_of_getElem? ew) (List.mem_of_getElem? ec) _ _ (same_new s nT) fun H5 s5 => ⟨List.zipWith f (ws.take i) (cs.take i), s5 _ _ (lk_mut nTD e), ?_, same_mut (Same.trans (same_new s nT) s5) hD, ?_⟩
    · rw [List.length_zipWith, List.length_take]
      refine Nat.lt_of_le_of_lt (m := 1000000) ?_ (by decide)
      omega
    · rw [upd_same, List.take_add_one, List.take_add_one, ew, ec]
      rw [List.zipWith_append (by simp only [List.length_take]; omega)]
      rfl
  · have e1 : i = ws.length := by omega
    subst e1
    rw [List.take_length, List.take_of_length_le (Nat.le_of_eq hl.symm)] at e
    exact .inl ⟨⟨_, _, ka, kb, .inl (by rw [List.length_map]; exact Nat.le_refl _)⟩, hq D H3 hD s e⟩
end
/-! ### ranges with a step -/
def forR3K (g : TG) (tb : TS) (n : St → Hp → Prop) (rt : VK) (σ : St) (vs : List V) (H : Hp) : Prop := ∃ (i j c : Int) (k : Nat), vs = [.int i, .int j, .int c] ∧ RgC i j c k ∧ forJ (Itc i c k) g tb n rt σ H
def lcR3K (g : TG) (tt : TT) (te : TE) (vs : List Nat) (σ : St) (us : List V) (H : Hp) (Q : VK) : Prop := ∃ (i j c : Int) (k : Nat), us = [.int i, .int j, .int c] ∧ RgC i j c k ∧ lcJ (Itc i c k) g tt te vs σ H Q
section
variable {K : PySem.W.Frag} {σ σ' : St} {H H' : Hp} {Q : VK} {te : TE} {ta : TA} {tb : TS} {g : TG} {n : St → Hp → Prop} {rt : VK} {bk ct : St → Hp → Prop} {m k : Nat} {i j c : Int}
theorem g_forR3 (q : ta σ H fun vs H1 => forR3K g tb n rt σ vs H1) : tFor (iRng3 ta) g tb ⟨n, rt, bk, ct⟩ σ H := q
theorem g_lcR3 {tt : TT} {vs : List Nat} (q : ta σ H fun us H1 => lcR3K g tt te vs σ us H1 Q) : tLc (iRng3 ta) g tt te vs σ H Q := q
theorem for_R3 (hr : RgC i j c k) (Pv : Nat → St → Hp → Prop) (h0 : Pv 0 σ H)
    (ht : ∀ (l : Nat) σ H, l < k → Pv l σ H → asgn m (fun σ2 H2 => tb ⟨Pv (l + 1), rt, n, Pv (l + 1)⟩ σ2 H2) (.int (i + (l : Int) * c)) σ H) (hd : ∀ σ H, Pv k σ H → n σ H) : forR3K (gName m) tb n rt σ [.int i, .int j, .int c] H := by
  refine ⟨i, j, c, k, rfl, hr, fun l mm σ H => mm = k - l ∧ l ≤ k ∧ Pv l σ H, ⟨k, rfl, Nat.zero_le _, h0⟩, ?_⟩
  rintro l mm σ H ⟨rfl, hl, p⟩
  by_cases hlt : l < k
  · refine .inr ⟨hlt, fun σ' H' => Pv (l + 1) σ' H', fun σ' H' q => ⟨k - (l + 1), by omega, rfl, hlt, q⟩, fun v H' hy => ?_⟩
    obtain ⟨rfl, rfl⟩ := hy
    exact ht l σ _ hlt p
  · have e : l = k := by omega
    subst e
    exact .inl ⟨Nat.le_refl _, hd σ H p⟩
theorem lc_R3 (hr : RgC i j c k) (f : Nat → V) (hl : k ≤ 1000000) (he : ∀ l, l < k → ∀ D, eachK te m σ H D (.int (i + (l : Int) * c)) (f l)) (hq : ∀ D H3, H D = none → Same H H3 → H3 D = some (.lst ((List.range k).map f)) → Q (.ref D) H3) :
    lcR3K (gName m) tYes te [m] σ [.int i, .int j, .int c] H Q := by
  refine ⟨i, j, c, k, rfl, hr, fun D hD => ?_⟩
  refine ⟨fun l kk H3 => kk = k - l ∧ l ≤ k ∧ Same H H3 ∧ H3 D = some (.lst ((List.range l).map f)), ⟨k, rfl, Nat.zero_le _, same_new (Same.refl _) hD, upd_same⟩, ?_⟩
  rintro l kk H3 ⟨rfl, hlk, s, e⟩
  by_cases hlt : l < k
  · refine .inr ⟨hlt, fun H4 => Same H H4 ∧ H4 D = some (.lst ((List.range (l + 1)).map f)), fun H4 p => ⟨k - (l + 1), by omega, rfl, hlt, p⟩, fun v H4 hy => ?_⟩
    obtain ⟨rfl, rfl⟩ := hy
    refine ⟨wipe1 _, ?_⟩
    have yes : ∀ {A B : Prop}, A → if true = true then A else B := fun h => iteT h
    refine yes (B := ((fun H2 => Same H H2 ∧ H2 D = some (HO.lst ((List.range (l + 1)).map f))) H4)) ?_
    refine he l hlt D H4 _ s fun H5 s5 => ⟨(List.range l).map f, s5 _ _ e, ?_, same_mut (Same.trans s s5) hD, ?_⟩
    · rw [List.length_map, List.length_range]
      exact Nat.lt_of_le_of_lt (m := 1000000) (by omega) (by decide)
    · rw [upd_same, List.range_succ, List.map_append]
      rfl
  · have e1 : l = k := by omega
    subst e1
    exact .inl ⟨Nat.le_refl _, hq D H3 hD s e⟩
end
theorem g_mask1 {i : Int} {H : Hp} {Q : VK} (q : Q (.int (i % 2)) H) : rMask (.int i) (.int 1) H Q := ⟨i, 1, rfl, by decide, q⟩
theorem g_extend {H : Hp} {Q : VK} {p r : Addr} {xs ys : List V} (h : H p = some (.lst xs)) (k : H r = some (.lst ys)) (hl : xs.length + ys.length ≤ sizeLine) (q : Q .non (upd H p (.lst (xs ++ ys)))) : rExtend (.ref p) [.ref r] H Q :=
  ⟨p, r, xs, ys, rfl, rfl, h, k, hl, q⟩
/-! ### comprehensions whose elements are new things: each is related to its item -/
section
variable {K : PySem.W.Frag} {σ : St} {H : Hp} {Q : VK} {te : TE} {m : Nat} {a : Addr} {ns : List Int}
theorem lc_LR (hs : SqL K H a (ns.map V.int)) (R : Int → V → Hp → Prop) (mono : ∀ z y H0 H1 D zs, H0 D = some (.lst zs) → SameX (· = D) H0 H1 → R z y H0 → R z y H1) (hl : ns.length ≤ 1000000)
    (he : ∀ z, z ∈ ns → ∀ H2 Q2, Same H H2 → (∀ y H3, Same H2 H3 → R z y H3 → Q2 y H3) → asgn m (fun σ2 H2 => te σ2 H2 Q2) (.int z) (σ.set m none) H2)
    (hq : ∀ D H3 ys, H D = none → Same H H3 → H3 D = some (.lst ys) → ys.length = ns.length → (∀ (i : Nat) z y, ns[i]? = some z → ys[i]? = some y → R z y H3) → Q (.ref D) H3) :
    lcLK K (gName m) tYes te [m] σ (.ref a) H Q := by
  refine ⟨a, rfl, ⟨_, hs⟩, fun D hD => ?_⟩
  refine ⟨fun i k H3 => k = ns.length - i ∧ i ≤ ns.length ∧ Same H H3 ∧ ∃ ys, H3 D = some (.lst ys) ∧ ys.length = i ∧ ∀ (j : Nat) z y, ns[j]? = some z → ys[j]? = some y → R z y H3, ⟨ns.length, rfl, Nat.zero_le _, same_new (Same.refl _) hD, [], upd_same, rfl, fun j z y _ h => by simp at h⟩, ?_⟩
  rintro i k H3 ⟨rfl, hi, s, ys, e, yl, hr⟩
  have ka := s.seq hs
  by_cases hlt : i < ns.length
  · refine .inr ⟨⟨_, .int ns[i], ka, by rw [List.getElem?_map, List.getElem?_eq_getElem hlt]; rfl⟩, fun H4 => Same H H4 ∧ ∃ ys, H4 D = some (.lst ys) ∧ ys.length = i + 1 ∧ ∀ (j : Nat) z y, ns[j]? = some z → ys[j]? = some y → R z y H4, fun H4 p => ⟨ns.length - (i + 1), by omega, rfl, hlt, p⟩, fun v H4 hy => ?_⟩
    obtain ⟨rfl, ex⟩ := hy
    obtain ⟨z, ez, rfl⟩ := map_at (ex _ ka)
    refine ⟨wipe1 _, ?_⟩
    have yes : ∀ {A B : Prop}, A → if true = true then A else B := fun h => iteT h
    refine yes (B := ((fun H4 => Same H H4 ∧ ∃ ys, H4 D = some (HO.lst ys) ∧ ys.length = i + 1 ∧ ∀ (j : Nat) z y, ns[j]? = some z → ys[j]? = some y → R z y H4) H4)) ?_
    refine he z (List.mem_of_getElem? ez) H4 _ s fun y H5 s5 ry => ⟨ys, s5 _ _ e, Nat.lt_of_le_of_lt (m := 1000000) (by omega) (by decide), same_mut (Same.trans s s5) hD, ys ++ [y], upd_same, by rw [List.length_append, yl]; rfl, fun j z' y' hz' hy' => ?_⟩
    have X : SameX (· = D) H5 (upd H5 D (.lst (ys ++ [y]))) := (SameX.refl H5).mut rfl
    rcases Nat.lt_or_ge j i with c | c
    · rw [List.getElem?_append_left (by omega)] at hy'
      exact mono _ _ _ _ D ys (s5 _ _ e) X (mono _ _ _ _ D ys e (SameX.of s5) (hr j z' y' hz' hy'))
    · have ej : j = i := by
        have h2 := (List.getElem?_eq_some_iff.mp hy').1
        rw [List.length_append, yl, List.length_singleton] at h2
        omega
      subst ej
      rw [List.getElem?_append_right (by omega), yl, Nat.sub_self] at hy'
      rw [ez] at hz'
      cases hz'
      cases hy'
      exact mono _ _ _ _ D ys (s5 _ _ e) X ry
  · have e1 : i = ns.length := by omega
    subst e1
    exact .inl ⟨⟨_, ka, by rw [List.length_map]; exact Nat.le_refl _⟩, hq D H3 ys hD s e yl hr⟩
end
/-! Fo, comprehensions by what holds at each turn; with a test. -/
section
variable {K : PySem.W.Frag} {σ : St} {H : Hp} {Q : VK} {te : TE} {ta : TA} {tt : TT} {g : TG} {m : Nat} {a : Addr} {xs : List V} {i j : Int} {k : Nat}
/-- over anything, by what holds of the new list and all that is done so far -/
theorem lc_LN (hs : SqL K H a xs) (hl : xs.length ≤ 1000000) (I : Addr → Nat → List V → Hp → Prop) (h0 : ∀ D, H D = none → I D 0 [] (upd H D (.lst [])))
    (hk : ∀ D i ys H2, I D i ys H2 → SqL K H2 a xs ∧ H2 D = some (.lst ys) ∧ ys.length = i)
    (he : ∀ D i x ys H2 Q2, xs[i]? = some x → I D i ys H2 → (∀ y H4, H4 D = some (.lst ys) → I D (i + 1) (ys ++ [y]) (upd H4 D (.lst (ys ++ [y]))) → Q2 y H4) → asgn m (fun σ2 H2 => te σ2 H2 Q2) x (σ.set m none) H2)
    (hq : ∀ D ys H3, I D xs.length ys H3 → Q (.ref D) H3) : lcLK K (gName m) tYes te [m] σ (.ref a) H Q := by
  refine ⟨a, rfl, ⟨_, hs⟩, fun D hD => ?_⟩
  refine ⟨fun i k H3 => k = xs.length - i ∧ i ≤ xs.length ∧ ∃ ys, I D i ys H3, ⟨xs.length, rfl, Nat.zero_le _, [], h0 D hD⟩, ?_⟩
  rintro i k H3 ⟨rfl, hi, ys, hI⟩
  obtain ⟨ka, e, yl⟩ := hk D i ys H3 hI
  by_cases hlt : i < xs.length
  · refine .inr ⟨⟨_, xs[i], ka, List.getElem?_eq_getElem hlt⟩, fun H4 => ∃ ys, I D (i + 1) ys H4, fun H4 p => ⟨xs.length - (i + 1), by omega, rfl, hlt, p⟩, fun v H4 hy => ?_⟩
    obtain ⟨rfl, ex⟩ := hy
    have ex := ex _ ka
    refine ⟨wipe1 _, ?_⟩
    have yes : ∀ {A B : Prop}, A → if true = true then A else B := fun h => iteT h
    refine yes (B := ((fun H4 => ∃ ys, I D (i + 1) ys H4) H4)) ?_
    exact he D i v ys H4 _ ex hI fun y H5 e5 I5 => ⟨ys, e5, Nat.lt_of_le_of_lt (m := 1000000) (by omega) (by decide), ys ++ [y], I5⟩
  · have e1 : i = xs.length := by omega
    subst e1
    exact .inl ⟨⟨_, ka, Nat.le_refl _⟩, hq D ys H3 hI⟩
/-- over 0 .. k -/
theorem lc_R1N (hk : j = (k : Int)) (hl : k ≤ 1000000) (I : Addr → Nat → List V → Hp → Prop) (h0 : ∀ D, H D = none → I D 0 [] (upd H D (.lst [])))
    (hI : ∀ D i ys H2, I D i ys H2 → H2 D = some (.lst ys) ∧ ys.length = i)
    (he : ∀ D i ys H2 Q2, i < k → I D i ys H2 → (∀ y H4, H4 D = some (.lst ys) → I D (i + 1) (ys ++ [y]) (upd H4 D (.lst (ys ++ [y]))) → Q2 y H4) → asgn m (fun σ2 H2 => te σ2 H2 Q2) (.int (i : Int)) (σ.set m none) H2)
    (hq : ∀ D ys H3, I D k ys H3 → Q (.ref D) H3) : lcR1K (gName m) tYes te [m] σ [.int j] H Q := by
  subst hk
  refine ⟨k, rfl, by omega, by omega, fun D hD => ?_⟩
  refine ⟨fun i n H3 => n = k - i ∧ i ≤ k ∧ ∃ ys, I D i ys H3, ⟨k, rfl, Nat.zero_le _, [], h0 D hD⟩, ?_⟩
  rintro i n H3 ⟨rfl, hi, ys, hI3⟩
  obtain ⟨e, yl⟩ := hI D i ys H3 hI3
  by_cases hlt : i < k
  · refine .inr ⟨by show i < (k : Int).toNat; simpa using hlt, fun H4 => ∃ ys, I D (i + 1) ys H4, fun H4 p => ⟨k - (i + 1), by omega, rfl, hlt, p⟩, fun v H4 hy => ?_⟩
    obtain ⟨rfl, rfl⟩ := hy
    refine ⟨wipe1 _, ?_⟩
    have yes : ∀ {A B : Prop}, A → if true = true then A else B := fun h => iteT h
    refine yes (B := ((fun H4 => ∃ ys, I D (i + 1) ys H4) H4)) ?_
    rw [show (0 : Int) + (i : Int) = (i : Int) by omega]
    exact he D i ys H4 _ hlt hI3 fun y H5 e5 I5 => ⟨ys, e5, Nat.lt_of_le_of_lt (m := 1000000) (by omega) (by decide), ys ++ [y], I5⟩
  · have e1 : i = k := by omega
    subst e1
    exact .inl ⟨by show (i : Int).toNat ≤ i; simp, hq D ys H3 hI3⟩
/-- with a test, over an iteration of ints from i -/
theorem lc_testJ {J : It} (b : Int) (hg : ∀ i H, i < k → J.go i H) (hy : ∀ i H x H2, J.yld i H x H2 → H2 = H ∧ x = .int (b + (i : Int))) (hs : ∀ H, J.stop k H) (hl : k ≤ 1000000) (p : Nat → Bool) (f : Nat → V)
    (he : ∀ i, i < k → ∀ H2 (A : V → Hp → Prop) (B : Hp → Prop), Same H H2 → (p i = true → ∀ H3, Same H2 H3 → A (f i) H3) → (p i = false → ∀ H3, Same H2 H3 → B H3) →
      asgn m (fun σ2 H2 => tt σ2 H2 fun b H3 => if b = true then te σ2 H3 A else B H3) (.int (b + (i : Int))) (σ.set m none) H2)
    (hq : ∀ D H3, H D = none → Same H H3 → H3 D = some (.lst (((List.range k).filter p).map f)) → Q (.ref D) H3) : lcJ J (gName m) tt te [m] σ H Q := by
  intro D hD
  refine ⟨fun i n H3 => n = k - i ∧ i ≤ k ∧ Same H H3 ∧ H3 D = some (.lst (((List.range i).filter p).map f)), ⟨k, rfl, Nat.zero_le _, same_new (Same.refl _) hD, upd_same⟩, ?_⟩
  rintro i n H3 ⟨rfl, hi, s, e⟩
  by_cases hlt : i < k
  · refine .inr ⟨hg i H3 hlt, fun H4 => Same H H4 ∧ H4 D = some (.lst (((List.range (i + 1)).filter p).map f)), fun H4 q => ⟨k - (i + 1), by omega, rfl, hlt, q⟩, fun v H4 hyy => ?_⟩
    obtain ⟨rfl, rfl⟩ := hy _ _ _ _ hyy
    refine ⟨wipe1 _, ?_⟩
    refine he i hlt H4 _ _ s (fun hp H5 s5 => ⟨((List.range i).filter p).map f, s5 _ _ e, ?_, same_mut (Same.trans s s5) hD, ?_⟩) fun hp H5 s5 => ⟨Same.trans s s5, ?_⟩
    · rw [List.length_map]
      have := List.length_filter_le p (List.range i)
      rw [List.length_range] at this
      exact Nat.lt_of_le_of_lt (m := 1000000) (by omega) (by decide)
    · rw [upd_same, List.range_succ, List.filter_append, List.map_append]
      simp [hp]
    · rw [s5 _ _ e, List.range_succ, List.filter_append, List.map_append]
      simp [hp]
  · have e1 : i = k := by omega
    subst e1
    exact .inl ⟨hs H3, hq D H3 hD s e⟩
theorem lc_R1F (hk : j = (k : Int)) (hl : k ≤ 1000000) (p : Nat → Bool) (f : Nat → V)
    (he : ∀ i, i < k → ∀ H2 (A : V → Hp → Prop) (B : Hp → Prop), Same H H2 → (p i = true → ∀ H3, Same H2 H3 → A (f i) H3) → (p i = false → ∀ H3, Same H2 H3 → B H3) →
      asgn m (fun σ2 H2 => tt σ2 H2 fun b H3 => if b = true then te σ2 H3 A else B H3) (.int (0 + (i : Int))) (σ.set m none) H2)
    (hq : ∀ D H3, H D = none → Same H H3 → H3 D = some (.lst (((List.range k).filter p).map f)) → Q (.ref D) H3) : lcR1K (gName m) tt te [m] σ [.int j] H Q := by
  subst hk
  refine ⟨k, rfl, by omega, by omega, lc_testJ (J := Itr 0 (k : Int).toNat) 0 (fun i H hi => by show i < (k : Int).toNat; simpa using hi) (fun i H x H2 y => y) (fun H => by show (k : Int).toNat ≤ k; simp) hl p f he hq⟩
def lcR2K (g : TG) (tt : TT) (te : TE) (vs : List Nat) (σ : St) (us : List V) (H : Hp) (Q : VK) : Prop := ∃ i j : Int, us = [.int i, .int j] ∧ (-(2 ^ 62) ≤ i ∧ i < 2 ^ 62 ∧ -(2 ^ 62) ≤ j ∧ j < 2 ^ 62) ∧ lcJ (Itr i (j - i).toNat) g tt te vs σ H Q
theorem g_lcR2 {vs : List Nat} (q : ta σ H fun us H1 => lcR2K g tt te vs σ us H1 Q) : tLc (iRng2 ta) g tt te vs σ H Q := q
theorem lc_R2F (hk : (j - i).toNat = k) (hb : -(2 ^ 62) ≤ i ∧ i < 2 ^ 62 ∧ -(2 ^ 62) ≤ j ∧ j < 2 ^ 62) (hl : k ≤ 1000000) (p : Nat → Bool) (f : Nat → V)
    (he : ∀ l, l < k → ∀ H2 (A : V → Hp → Prop) (B : Hp → Prop), Same H H2 → (p l = true → ∀ H3, Same H2 H3 → A (f l) H3) → (p l = false → ∀ H3, Same H2 H3 → B H3) →
      asgn m (fun σ2 H2 => tt σ2 H2 fun b H3 => if b = true then te σ2 H3 A else B H3) (.int (i + (l : Int))) (σ.set m none) H2)
    (hq : ∀ D H3, H D = none → Same H H3 → H3 D = some (.lst (((List.range k).filter p).map f)) → Q (.ref D) H3) : lcR2K (gName m) tt te [m] σ [.int i, .int j] H Q := by
  subst hk
  exact ⟨i, j, rfl, hb, lc_testJ (J := Itr i (j - i).toNat) i (fun l H hl => hl) (fun l H x H2 y => y) (fun H => Nat.le_refl _) hl p f he hq⟩
end
/-! ### and, of any two ints -/
def rBits : R2 := rI0 fun i j => .int (Builtin.bitAnd i j)
theorem o_bits {X : Cx} : OpR X (binaryOp .BitAnd) rBits := op_and
theorem g_bitand {i j : Int} {H : Hp} {Q : VK} (q : Q (.int (Builtin.bitAnd i j)) H) : rBits (.int i) (.int j) H Q := ⟨i, j, rfl, rfl, q⟩
theorem ixN_nat {n k : Nat} (h : k < n) : ixN n (k : Int) = some k := by
  unfold ixN
  rw [if_pos (by omega), if_pos (by omega)]
  rfl
theorem g_setL {H : Hp} {p : Addr} {xs : List V} {n : Nat} {v : V} {nH : Hp → Prop} (h : H p = some (.lst xs)) (hn : n < xs.length) (q : nH (upd H p (.lst (xs.set n v)))) : rSetL (.ref p) (.int (n : Int)) v H nH := ⟨p, xs, n, n, rfl, rfl, h, ixN_nat hn, q⟩
theorem g_on31 {F : V → V → V → Hp → VK → XK → Prop} {a b c : V} {H : Hp} {Q : VK} {E : XK} (q : F a b c H Q E) : on3 F ([a, b] ++ [c]) H Q E := ⟨a, b, c, rfl, q⟩
theorem g_on42 {F : V → V → V → V → Hp → VK → XK → Prop} {a b c d : V} {H : Hp} {Q : VK} {E : XK} (q : F a b c d H Q E) : on4 F ([a, b] ++ [c, d]) H Q E := ⟨a, b, c, d, rfl, q⟩
theorem g_on41 {F : V → V → V → V → Hp → VK → XK → Prop} {a b c d : V} {H : Hp} {Q : VK} {E : XK} (q : F a b c d H Q E) : on4 F ([a, b, c] ++ [d]) H Q E := ⟨a, b, c, d, rfl, q⟩
/-! Fo, try: one clause 'except C as e', its suite asks of which class e is. -/
def rIsET (K : PySem.W.Frag) (D a : Addr) : List V → Hp → VK → Prop := fun xs H Q => ∃ (tp : Addr) (cs : List V) (ws : List Value) (b : Bool), xs = [.ref a, .ref tp] ∧ H tp = some (.tup cs) ∧ Paired ClsV cs ws ∧ PySem.W.kitAny K (.ref D) ws = some b ∧ Q (.bl b) H
theorem call_isET {X : Cx} {a D : Addr} {oe : Obj} {pn : List (Addr × Obj)} (C : ExcC X.K D) (hz : Zc (.ref D) none oe) (hf : ∃ vs, oe.data = .fields vs) : CallR (X.suite a ((a, oe) :: pn)) (.builtin "isinstance") (rIsET X.K D a) := by
  intro pins s σ H xs us Q I r h
  obtain ⟨tp, cs, ws, b, rfl, hT, k, e, q⟩ := h
  obtain ⟨u1, u2, rfl, r1, r2⟩ := vals2 r
  cases (show u2 = Value.ref tp from r2)
  cases (show u1 = Value.ref a from r1)
  obtain ⟨_, its, rv, o, h1, h2, n, h3⟩ := (show ObjOk X.prog X.w H s.heap tp (.tup cs) from I.hok tp _ hT)
  have e3 := ClsV.all k rv
  subst e3
  obtain ⟨oc, od, dt, sl⟩ := o
  simp only at h2 h3
  subst h2 h3
  obtain ⟨hget, _⟩ := I.pin (a, oe) (List.mem_append.mpr (.inl List.mem_cons_self))
  obtain ⟨vs, hv⟩ := hf
  have J : PySem.W.InstAt s.heap a oe D none := by
    obtain ⟨oc, od, oda, osl⟩ := oe
    obtain ⟨h1, h2⟩ := hz
    dsimp only at h1 h2 hv
    subst h1 h2 hv
    exact ⟨hget, rfl, rfl, trivial⟩
  exact PySem.W.kia_tup (PySem.W.handS_kitx_exc C.hg C.hk C.hs C.hd C.ha C.hn C.ht C.hm) I.kIn J h1 e (fun z => nomatch z) fun tk => ⟨.bl b, H, I.tok tk, rfl, q⟩
def rIsEx (K : PySem.W.Frag) (D a : Addr) : List V → Hp → VK → Prop := fun xs H Q => rIsE K D a xs H Q ∨ rIsET K D a xs H Q
theorem c_isx {X : Cx} {a D : Addr} {oe : Obj} {pn : List (Addr × Obj)} (C : ExcC X.K D) (hz : Zc (.ref D) none oe) (hf : ∃ vs, oe.data = .fields vs) : CallR (X.suite a ((a, oe) :: pn)) (.builtin "isinstance") (rIsEx X.K D a) := orCall (call_isE C hz hf) (call_isET C hz hf)
/-- the suite, asked of an exception of an own class without a dict -/
def tEx (K : PySem.W.Frag) (ts : Addr → Addr → TS) : Addr → Value → Option Addr → TS := fun a cls d Dd σ H => ∃ D, cls = .ref D ∧ d = none ∧ ExcC K D ∧ ts a D Dd σ H
def tTry (K : PySem.W.Frag) (c : Value) (i : Nat) (tb : WX → TS) (ts : Addr → Addr → TS) (Wout : WX) : TS := fun D σ H => tb (wAs K c i (tEx K ts) Wout D) D σ H
section
variable {X : Cx} {x n : Str} {c : Value} {i : Nat} {body suite : List Stmt} {b₀ : Stmt} {np pos pos' : Pos} {tb : WX → TS} {ts : Addr → Addr → TS} {Wout : WX}
theorem ps_tryX (hs : X.stack = X.env :: X.outer) (hf : X.env.frame = some X.env.locals) (hN : X.N.Nodup) (hi : X.N[i]? = some n) (hln : X.env.kindOf n = some .local) (hc : Names X x c) (tk : Takes X Wout)
    (hb : ∀ (W : WX) (pn : List (Addr × Obj)) (xe : Value → Shared → Prop), Takes (X.tr pn xe) W → PassesOwn (model X.prog X.w) X.A X.env xe → PSs (X.tr pn xe) body (tb W))
    (hsu : ∀ (a : Addr) (oe : Obj) (D : Addr) (pn : List (Addr × Obj)), Zc (.ref D) none oe → (∃ vs, oe.data = .fields vs) → ExcC X.K D → PSs (X.suite a ((a, oe) :: pn)) (b₀ :: suite) (ts a D)) :
    PS X (.Try body [.ExceptHandler (some (.Name x np)) (some n) (b₀ :: suite) pos'] [] [] pos) (tTry X.K c i tb ts Wout) :=
  ps_try_as hs hf hN hi hln hc tk hb fun a oe cls d pn hz hfd => ⟨fun pins s σ H Dd I h => by
    obtain ⟨D, rfl, rfl, C, h⟩ := h
    exact (hsu a oe D pn hz hfd C).run pins s σ H Dd I h⟩
end
class HasExc (K : PySem.W.Frag) (C : Str) : Prop where h : ExcC K (He.ga K C)
class HasExm (K : PySem.W.Frag) (C D : Str) (b : outParam Bool) : Prop where h : PySem.W.exmOne K (.ref (He.ga K C)) (.ref (He.ga K D)) = some b
class HasKitT (K : PySem.W.Frag) (C : Str) (t : String) (b : outParam Bool) : Prop where h : PySem.W.kitOne K (.ref (He.ga K C)) (.type t) = some b
def unset (i : Nat) (n : St → Hp → Prop) : St → Hp → Prop := fun σ H => n (σ.set i none) H
section
variable {K : PySem.W.Frag} {σ σ' : St} {H : Hp} {Q : VK} {c : Value} {i : Nat} {tb : WX → TS} {ts : Addr → Addr → TS} {Wout : WX} {n : St → Hp → Prop} {rt : VK} {bk ct : St → Hp → Prop} {C D : Str} {a : Addr} {b : Bool}
theorem g_try (q : tb (wAs K c i (tEx K ts) Wout ⟨n, rt, bk, ct⟩) ⟨n, rt, bk, ct⟩ σ H) : tTry K c i tb ts Wout ⟨n, rt, bk, ct⟩ σ H := q
/-- what is raised is caught -/
theorem g_caught (e : HasExc K C) (m : HasExm K C D true) (q : ∀ a, H a = none → asgn i (fun σ1 H1 => ts a (He.ga K C) ⟨unset i n, rt, unset i bk, unset i ct⟩ σ1 H1) (.ref a) σ H) :
    wAs K (.ref (He.ga K D)) i (tEx K ts) Wout ⟨n, rt, bk, ct⟩ (.ref (He.ga K C)) none σ H :=
  ⟨true, m.h, fun _ a ha => ⟨He.ga K C, rfl, rfl, e.h, q a ha⟩, fun z => nomatch z⟩
theorem g_we {W : WX} {cls : Value} {d : Option Addr} (q : W cls d σ H) : WE W σ cls d H := q
theorem g_unset (r : SetR σ i none σ') (q : n σ' H) : unset i n σ H := by
  unfold unset
  rw [r.eq]
  exact q
theorem g_isx1 (k : HasKit K C D b) (q : Q (.bl b) H) : rIsEx K (He.ga K C) a [.ref a, .ref (He.ga K D)] H Q := .inl ⟨.ref (He.ga K D), .ref (He.ga K D), b, rfl, fun u r => r, k.h, q⟩
theorem g_isxT {t : String} (k : HasKitT K C t b) (q : Q (.bl b) H) : rIsEx K (He.ga K C) a [.ref a, .ty t] H Q := .inl ⟨.ty t, .type t, b, rfl, fun u r => r, k.h, q⟩
/-- classes whose answer is no -/
inductive NoneOf (K : PySem.W.Frag) (C : Str) : List V → List Value → Prop
  | nil : NoneOf K C [] []
  | cons {D : Str} {vs : List V} {us : List Value} (k : HasKit K C D false) (h : NoneOf K C vs us) : NoneOf K C (.ref (He.ga K D) :: vs) (.ref (He.ga K D) :: us)
theorem NoneOf.pair {vs : List V} {us : List Value} (h : NoneOf K C vs us) : Paired ClsV vs us ∧ PySem.W.kitAny K (.ref (He.ga K C)) us = some false := by
  induction h with
  | nil => exact ⟨.nil, kitAny_nil⟩
  | cons k h ih => exact ⟨.cons (.own _) ih.1, kitAny_cons k.h (fun _ => ih.2) (fun z => nomatch z)⟩
theorem g_isx0 {tp : Addr} {vs : List V} {us : List Value} (h : H tp = some (.tup vs)) (k : NoneOf K C vs us) (q : Q (.bl false) H) : rIsEx K (He.ga K C) a [.ref a, .ref tp] H Q := .inr ⟨tp, vs, us, false, rfl, h, k.pair.1, k.pair.2, q⟩
end
/-! ### one clause 'except C' without a name; several of them -/
def tTryO (K : PySem.W.Frag) (c : Value) (tb : WX → TS) (ts : TS) (Wout : WX) : TS := fun D σ H => tb (wOnly K c (fun _ _ _ => ts) Wout D) D σ H
section
variable {X : Cx} {x : Str} {c : Value} {body suite : List Stmt} {b₀ : Stmt} {np pos pos' : Pos} {tb : WX → TS} {ts : TS} {Wout : WX}
theorem ps_tryO (hs : X.stack = X.env :: X.outer) (hf : X.env.frame = some X.env.locals) (hc : Names X x c) (tk : Takes X Wout)
    (hb : ∀ (W : WX) (pn : List (Addr × Obj)) (xe : Value → Shared → Prop), Takes (X.tr pn xe) W → PassesOwn (model X.prog X.w) X.A X.env xe → PSs (X.tr pn xe) body (tb W))
    (hsu : ∀ (a : Addr) (oe : Obj) (pn : List (Addr × Obj)), PSs (X.suite a ((a, oe) :: pn)) (b₀ :: suite) ts) :
    PS X (.Try body [.ExceptHandler (some (.Name x np)) none (b₀ :: suite) pos'] [] [] pos) (tTryO X.K c tb ts Wout) :=
  ps_try_only (ts := fun _ _ _ => ts) hs hf hc tk hb fun a oe _ _ pn _ _ => hsu a oe pn
end
section
variable {K : PySem.W.Frag} {σ : St} {H : Hp} {c : Value} {tb : WX → TS} {ts : TS} {Wout : WX} {n : St → Hp → Prop} {rt : VK} {bk ct : St → Hp → Prop} {C D : Str}
theorem g_tryO (q : tb (wOnly K c (fun _ _ _ => ts) Wout ⟨n, rt, bk, ct⟩) ⟨n, rt, bk, ct⟩ σ H) : tTryO K c tb ts Wout ⟨n, rt, bk, ct⟩ σ H := q
theorem g_caughtO (m : HasExm K C D true) (q : ts ⟨n, rt, bk, ct⟩ σ H) : wOnly K (.ref (He.ga K D)) (fun _ _ _ => ts) Wout ⟨n, rt, bk, ct⟩ (.ref (He.ga K C)) none σ H :=
  ⟨true, m.h, fun _ _ _ => q, fun z => nomatch z⟩
theorem g_passedO (m : HasExm K C D false) (q : Wout (.ref (He.ga K C)) none σ H) : wOnly K (.ref (He.ga K D)) (fun _ _ _ => ts) Wout ⟨n, rt, bk, ct⟩ (.ref (He.ga K C)) none σ H :=
  ⟨false, m.h, fun z => (nomatch z), fun _ => q⟩
end
/-! Fo, comprehensions whose element may raise: the exception flies out of the comprehension, at the slots ahead of it. -/
theorem noteFrame_frame {e : Value} {a b : Env} (h : a.frame = b.frame) : noteFrame e a = noteFrame e b := by
  unfold noteFrame PySem.frameOf
  rw [h]
theorem frames_but {B B' h h' : Heap} {C : Addr} (hB : ∀ b, B.get? b = none → B'.get? b = none) (same : ∀ b, b ≠ C → h'.get? b = h.get? b) : ∀ {l : List Env}, C ∉ frs l → h.FunFrames B l → h'.FunFrames B' l
  | [], _, _ => trivial
  | env :: l, hC, ⟨k, ⟨L, o, hf, hb, hh, hn⟩, r⟩ => by
    have nL : L ≠ C := fun z => hC (List.mem_filterMap.mpr ⟨env, List.mem_cons_self, by rw [hf, z]⟩)
    exact ⟨k, ⟨L, o, hf, hB L hb, (same L nL).trans hh, hn⟩, frames_but hB same (fun hm => hC (by
      obtain ⟨e, he, q⟩ := List.mem_filterMap.mp hm
      exact List.mem_filterMap.mpr ⟨e, List.mem_cons_of_mem _ he, q⟩)) r⟩
/-- the context of a comprehension's block whose element may raise: what is raised is noted, the block's names go, then it flies on -/
abbrev blkX (X : Cx) (s3 : Shared) (H3 : Hp) (scope : Scope) (ce : Env) (fp : List Addr) (R : Result → Shared → Prop) : Cx := { X.blk s3 H3 scope ce fp with xe := notedBy (model X.prog X.w) X.A ce fun e s' => R (.error e) s' }
section
variable {X : Cx} {W : WX}
theorem blk_core {n : Bool} {pins : List (Addr × Obj)} {σ : St} {H3 : Hp} {s3 : Shared} {scope : Scope} {ce : Env} {fp : List Addr} {R : Result → Shared → Prop}
    (hs : X.stack = X.env :: X.outer) (hf : X.env.frame = some X.env.locals) (tk : TakesF n X W) (I3 : Inv X pins σ H3 s3) (cf : ce.frame = X.env.frame) (cL : ce.locals = s3.heap.objs.size)
    (f3 : ∀ b ∈ fp, FpOk X pins H3 b ∧ b < s3.heap.objs.size) (hR : ∀ e s', CompFails (model X.prog X.w) X.A X.xe ce e s' → R (.error e) s') :
    ∀ σ', PassesAt (CXF n X.prog X.w) (blkX X s3 H3 scope ce fp R) σ' (WE W σ) := by
  intro σ' pins' H s e s' IY c
  have hfr : X.A.frames = some (X.env :: X.outer) := by rw [I3.ok.frames, hs]
  have JX : Inv X pins σ H s := I3.call' (ch := fp) IY.os IY.base IY.hok IY.bare fun b hb => ⟨(f3 b hb).1.2.2.2.1, (f3 b hb).1.2.1, (f3 b hb).1.2.2.2.2.1, (f3 b hb).1.2.2.2.2.2⟩
  -- the block's names: a dict that is not tracked
  obtain ⟨m, hn, _⟩ := IY.loc
  have hn : s.heap.Ns ce.locals m := hn
  have nC : H ce.locals = none := IY.free
  obtain ⟨n1, n2, n3, n4, n5, n6⟩ : FpOk X pins H ce.locals := by
    rw [cL] at nC ⊢
    exact I3.fpOk (Nat.le_refl _) nC
  have off : ce.locals ∉ frs X.stack := fun hm => by
    rw [hs] at hm
    obtain ⟨v, hv, q⟩ := List.mem_filterMap.mp hm
    rcases List.mem_cons.mp hv with rfl | hv
    · rw [hf] at q
      exact n2 (Option.some.inj q).symm
    · exact n3 (List.mem_filterMap.mpr ⟨v, hv, q⟩)
  generalize hC : ce.locals = C at hn nC n1 n2 n3 n4 n5 n6 off hR
  obtain ⟨oC, es, ep, hoC, hdC, rC⟩ := hn
  -- what the callee let out, in the def's own context
  obtain ⟨a0, B0, H0, cls0, d0, rfl, fl0, hok0, ub0, na0, os0, ag0, w0⟩ := c.ex
  have hC' : s'.heap.get? C = some oC := fl0.1 _ _ (ub0.keep C oC hoC nC off)
  have xx : XEF n X (fun cls d σ1 H1 => W cls d σ1 H1 ∧ H1 C = none) (.ref a0) s' :=
    XEF.of_call (E := fun cls d H1 => W cls d σ H1 ∧ H1 C = none) JX (fun _ _ _ h => h) <| CXF.mk ⟨a0, B0, H0, cls0, d0, rfl, fl0, hok0, ub0, na0, os0, ag0, w0, ub0.free C oC hoC nC⟩
  clear fl0 hok0 ub0 na0 os0 ag0 w0 JX IY
  obtain ⟨a, B, sI, pn, σ1, H1, cls, d, ea, J, low, up, sky, na, os, ag, w, nC1⟩ := xx
  rw [ea]
  clear ea
  have J0 : Inv X [] σ1 H1 sI := J.pins_of fun p hp => nomatch hp
  -- without the block's names
  obtain ⟨G, g1, g2⟩ := restrict sI.heap fun b => decide (b ≠ C)
  obtain ⟨B', b1, b2⟩ := restrict B fun b => decide (b ≠ C)
  have only : ∀ {h h' : Heap}, (∀ b, decide (b ≠ C) = true → h'.get? b = h.get? b) → (∀ b, decide (b ≠ C) = false → h'.get? b = none) → ∀ b o, h'.get? b = some o → b ≠ C ∧ h.get? b = some o := fun k1 k2 b o e => by
    by_cases z : b = C
    · rw [k2 b (by simp [z])] at e; cases e
    · rw [k1 b (by simp [z])] at e; exact ⟨z, e⟩
  have JG : Inv X [] σ1 H1 { sI with heap := G } := J0.turned (it := C) (t' := sI.toks) (fun b o hb e => by rw [g1 b (by simp [hb])]; exact e) nC1 n2 n4 n5 fun p hp => n6 p (List.mem_append_left _ (by simpa using hp))
  have none' : ∀ b, B.get? b = none → B'.get? b = none := fun b e => by
    cases q : B'.get? b with
    | none => rfl
    | some o => rw [(only b1 b2 b o q).2] at e; cases e
  show wpAny (model X.prog X.w) X.A (noteFrame (.ref a) ce) _ _ s'
  rw [noteFrame_frame cf]
  have fin : ∀ h1, HandSPX.HeldZ B (X.env :: X.outer) a (Zf n cls d) X.env.locals h1 → s'.heap.UpToSlots h1 → R (.error (.ref a)) { s' with heap := h1 } := by
    rintro h1 ⟨k1, k2, k3, oe, vs, T, oT, ts, he, hz, hd, hv, hnT, hTe, hT, hdT, h3⟩ up1
    obtain ⟨sl, hC1⟩ := up1 C oC hC' fun vs z => by rw [hdC] at z; cases z
    refine hR _ _ ?_
    show ∃ m, h1.Ns ce.locals m ∧ ∀ h' m', h'.Ns ce.locals m' → Heap.SameBut ce.locals h1 h' → wpAny (model X.prog X.w) X.A (passOn "comprehension.variables-let-go" (.ref a) ce : Sem Value) (fun _ _ => False) X.xe { s' with heap := h' }
    rw [hC]
    refine ⟨m, ⟨_, es, ep, hC1, hdC, rC⟩, fun h' m' _ sb => ?_⟩
    have same : ∀ b, b ≠ C → h'.get? b = h1.get? b := fun b hb => sb.2 b hb
    have nF : ∀ {b : Addr} {o : Obj} {vs : Array Value}, h1.get? b = some o → o.data = .fields vs → b ≠ C := fun e dd z => by
      rw [z, hC1] at e
      cases e
      rw [show ({ oC with slots := sl } : Obj).data = oC.data from rfl, hdC] at dd
      cases dd
    have held : HandSPX.HeldZ B' (X.env :: X.outer) a (Zf n cls d) X.env.locals h' := by
      refine ⟨fun b o e => ?_, none' a k2, frames_but none' same (by rw [← hs]; exact off) k3, oe, vs, T, oT, ts, (same a (nF he hd)).trans he, hz, hd, hv, none' T hnT, hTe, (same T (nF hT hdT)).trans hT, hdT, h3⟩
      obtain ⟨z, e⟩ := only b1 b2 b o e
      exact (same b z).trans (k1 b o e)
    have flies : wpAny (model X.prog X.w) X.A (do setFlight (.ref a) ce.frame; throw (.ref a) : Sem Value) (fun _ _ => False) X.xe { s' with heap := h' } := by
      rw [cf, hf]
      refine wpAny_bind (HandSPX.setFlight_onZ held fun h4 hh4 up4 => wpAny_throw (tk.go _ _ ?_))
      refine ⟨a, B', { sI with heap := G }, [], σ1, H1, cls, d, rfl, JG, fun b o e hb => ?_, fun b o e hnf => ?_, .inr (.inr (by rw [hs]; exact hh4)), na, os, ag, w⟩
      · obtain ⟨z, e⟩ := only g1 g2 b o e
        rw [b1 b (by simp [z])]
        exact low b o e hb
      · obtain ⟨z, e⟩ := only g1 g2 b o e
        obtain ⟨sl1, e1⟩ := (up.trans up1) b o e hnf
        obtain ⟨sl2, e2⟩ := up4 b _ ((same b z).trans e1) hnf
        exact ⟨sl2, e2⟩
    unfold PySem.passOn
    refine wpAny_bind (wpAny_field ((same a (nF he hd)).trans he) hd hv ?_)
    rw [if_neg (by simp)]
    first
      | exact flies
      | exact wpAny_bind (wpAny_pure flies)
  have sky : Sky B (X.env :: X.outer) a (Zf n cls d) X.env.locals s'.heap := by rw [← hs]; exact sky
  rcases sky with ⟨y1, y2, y3, oe, vs, he, hz, hd, hv⟩ | fl | held
  · exact PXN.look_newZ Zf.steady1 hfr y3 hf he y1 y2 hd hv hz fin
  · exact PXN.looks_onZ Zf.steady1 hfr hf fl fin
  · exact HandSPX.againZ hf held.2.2.2 (fin s'.heap held (Heap.UpToSlots.refl _))
theorem blk_out {n : Bool} {pins : List (Addr × Obj)} {σ : St} {H3 : Hp} {s3 : Shared} {scope : Scope} {ce : Env} {fp : List Addr} {R : Result → Shared → Prop}
    (hs : X.stack = X.env :: X.outer) (hf : X.env.frame = some X.env.locals) (tk : TakesF n X W) (I3 : Inv X pins σ H3 s3) (cf : ce.frame = X.env.frame) (cL : ce.locals = s3.heap.objs.size)
    (f3 : ∀ b ∈ fp, FpOk X pins H3 b ∧ b < s3.heap.objs.size) (hR : ∀ e s', CompFails (model X.prog X.w) X.A X.xe ce e s' → R (.error e) s') :
    Out n (blkX X s3 H3 scope ce fp R) (fun _ => WE W σ) := by
  have core := blk_core (n := n) (scope := scope) hs hf tk I3 cf cL f3 hR
  cases n with
  | false => exact out_of core
  | true => exact ⟨core, fun z => nomatch z⟩
end
/-- [elt for target in iter if ..], the element may raise: E the wish of what is raised, at the slots ahead of the comprehension -/
def tLcX (wi : TI) (g : TG) (tt : TT) (te : XK → TE) (vs : List Nat) (E : St → XK) : TE := fun σ H Q => tLc wi g tt (te (E σ)) vs σ H Q
theorem g_lcX {wi : TI} {g : TG} {tt : TT} {te : XK → TE} {vs : List Nat} {E : St → XK} {σ : St} {H : Hp} {Q : VK} (q : tLc wi g tt (te (E σ)) vs σ H Q) : tLcX wi g tt te vs E σ H Q := q
/-- what a comprehension's parts are asked to be, whatever its block's place is -/
structure LcOk (n : Bool) (X : Cx) (elt tg : Expr) (ifs : List Expr) (scope : Scope) (own : List (Str × Nat)) (g : TG) (tt : TT) (te : XK → TE) : Prop where
  ok : BlkOk X.N X.env.scope scope own
  tg : ∀ (s : Shared) (H : Hp) (C : Addr) (cl : List (Str × Addr)) (fp : List Addr), PG (X.blk s H scope (compEnvC scope cl C X.env) fp) tg g
  ifs : ∀ (s : Shared) (H : Hp) (C : Addr) (cl : List (Str × Addr)) (fp : List Addr), PTs (X.blk s H scope (compEnvC scope cl C X.env) fp) ifs tt
  elt : ∀ (s : Shared) (H : Hp) (C : Addr) (cl : List (Str × Addr)) (fp : List Addr) (R : Result → Shared → Prop) (E1 : XK), Out n (blkX X s H scope (compEnvC scope cl C X.env) fp R) (fun _ => E1) → PE (blkX X s H scope (compEnvC scope cl C X.env) fp R) elt (te E1)
section
variable {n : Bool} {X : Cx} {W : WX} {pins : List (Addr × Obj)} {σ : St} {H : Hp} {s : Shared} {Q : VK} {elt tg iter : Expr} {ifs : List Expr} {scope : Scope} {own : List (Str × Nat)} {pos pos' : Pos} {wi : TI} {g : TG} {tt : TT} {te : XK → TE} {use : Option (Value → Sem Unit)} {Qf : Value → Shared → Prop}
/-- the loop of the block, its list at D, its iterator at it -/
theorem lcX_loop {s3 s4 : Shared} {H3 : Hp} {ce : Env} {cl : List (Str × Addr)} {fp : List Addr} {it D : Addr} {tn : Nat → Heap → Prop} {J : It} {R : Result → Shared → Prop} {Wn : Nat → Nat → Hp → Prop} {m0 : Nat} {E1 : XK}
    (hc : X.calm = true) (L : LcOk n X elt tg ifs scope own g tt te) (hce : ce = compEnvC scope cl s3.heap.objs.size X.env) (T : Turn X.prog X.w X.K tg J fp it tn) (out : Out n (blkX X s3 H3 scope ce fp R) (fun _ => E1))
    (I4 : Inv (X.blk s3 H3 scope ce fp) [] (wipe σ (own.map (·.2))) H3 s4) (st4 : tn 0 s4.heap) (nfp : ∀ b ∈ fp, H3 b = none) (w0 : Wn 0 m0 H3)
    (turn : ∀ i m H, Wn i m H → (J.stop i H ∧ Q (.ref D) H) ∨ (J.go i H ∧ ∃ Nx : Hp → Prop, (∀ H', Nx H' → ∃ m', m' < m ∧ Wn (i + 1) m' H') ∧ ∀ x H', J.yld i H x H' → g x (wipe σ (own.map (·.2))) H' fun σ2 H2 => wipe σ2 (own.map (·.2)) = wipe σ (own.map (·.2)) ∧ tt σ2 H2 fun b H3 =>
      if b = true then te E1 σ2 H3 fun y H4 => ∃ acc, H4 D = some (.lst acc) ∧ acc.length < sizeLine ∧ Nx (upd H4 D (.lst (acc ++ [y]))) else Nx H3))
    (fin : ∀ (s6 : Shared) (H5 : Hp), Inv (X.blk s3 H3 scope ce fp) [] (wipe σ (own.map (·.2))) H5 s6 → Q (.ref D) H5 → R (.ok .next) s6) :
    codeAny (model X.prog X.w) X.A (.compLoop (.ListComp elt [⟨tg, iter, ifs, 0⟩] scope pos) 0 (.ref it) (.ref D) ce) R s4 := by
  have still : ∀ {σ' : St} {H' : Hp} {s' : Shared}, Inv (X.blk s3 H3 scope ce fp) [] σ' H' s' → (∀ b ∈ fp, H' b = none) → ∀ b ∈ fp, FpOk (X.blk s3 H3 scope ce fp) [] H' b := fun I' hn b hb =>
    ⟨hn b hb, (I'.ok.exf b hb).1, I'.ok.exfs b hb, .inl hb, fun x c e => (I'.ok.exf b hb).2 x c e, fun p hp => by cases hp⟩
  refine compLoop_any (fun n s' => ∃ i H', Inv (X.blk s3 H3 scope ce fp) [] (wipe σ (own.map (·.2))) H' s' ∧ tn i s'.heap ∧ (∀ b ∈ fp, H' b = none) ∧ Wn i n H') (fun n s5 h5 => ?_) m0 ⟨0, H3, I4, st4, nfp, w0⟩
  obtain ⟨i, H5, I5, st5, n5, w5⟩ := h5
  rcases turn i n H5 w5 with ⟨stop, qq⟩ | ⟨go, Nx, hNx, step⟩
  · refine thnF (T.done (X.blk s3 H3 scope ce fp) rfl rfl rfl hc i [] s5 _ H5 (fun _ _ => False) I5 (still I5 n5) st5 stop) fun r s6 h6 => ?_
    rw [h6.1]
    exact fin s6 H5 h6.2 qq
  refine thnF (T.item (X.blk s3 H3 scope ce fp) rfl rfl rfl hc i [] s5 _ H5 (fun _ _ => False) I5 (still I5 n5) st5 go) fun r s6 h6 => ?_
  obtain ⟨u, rfl, h6⟩ := h6
  refine thnF h6 fun _ s7 h7 => ?_
  obtain ⟨x, H7, I7, r7, y7, st7, n7⟩ := h7
  have objs := T.obj _ _ st7
  -- a turn that went on
  have next : ∀ {s' : Shared} {H' : Hp} {σ8 : St}, wipe σ8 (own.map (·.2)) = wipe σ (own.map (·.2)) → Inv (X.blk s3 H3 scope ce fp) ([] ++ pinsAt fp s7.heap) σ8 H' s' → Nx H' →
      ∃ m, m < n ∧ ∃ i H', Inv (X.blk s3 H3 scope ce fp) [] (wipe σ (own.map (·.2))) H' s' ∧ tn i s'.heap ∧ (∀ b ∈ fp, H' b = none) ∧ Wn i m H' := fun {s' H' σ8} hw I' nx => by
    obtain ⟨m', hm, w'⟩ := hNx H' nx
    have kept : ∀ b ∈ fp, ∀ o, s7.heap.get? b = some o → s'.heap.get? b = some o ∧ H' b = none := fun b hb o e => by
      have z := I'.pin (b, o) (List.mem_append_right _ (List.mem_append_right _ (mem_pinsAt hb e)))
      exact ⟨z.1, z.2.1⟩
    refine ⟨m', hm, i + 1, H', (I'.unpinned (pins := [])).weak (by rw [← hw, wipe_length]) (fun j v e => by rw [← hw] at e; exact (wipe_some e).1), T.keep _ _ _ st7 fun b hb o e => (kept b hb o e).1, fun b hb => ?_, w'⟩
    obtain ⟨o, e, _⟩ := objs b hb
    exact (kept b hb o e).2
  subst hce
  refine thnF ((L.tg s3 H3 _ cl fp).run _ s7 _ H7 x u _ (I7.pinned (still I7 n7) objs) r7 (step x H7 y7)) fun _ s8 h8 => ?_
  obtain ⟨σ8, H8, I8, hw, q8⟩ := h8
  refine thnF ((L.ifs s3 H3 _ cl fp).run _ s8 σ8 H8 _ I8 q8) fun b s9 h9 => ?_
  obtain ⟨H9, I9, q9⟩ := h9
  cases b with
  | false => exact next hw I9 q9
  | true =>
    refine thn ((L.elt s3 H3 _ cl fp R E1 out).run _ s9 σ8 H9 _ (I9.wish _) q9) fun z s10 h10 => ?_
    obtain ⟨yv, H10, I10, r10, acc, hD, hz, nx⟩ := h10
    exact app_ok (X := X.blk s3 H3 scope (compEnvC scope cl s3.heap.objs.size X.env) fp) (Inv.unwish (X := X.blk s3 H3 scope (compEnvC scope cl s3.heap.objs.size X.env) fp) I10) hD hz r10 fun s11 I11 => next hw I11 nx
theorem lcX_core (hc : X.calm = true) (hN : X.N.Nodup) (hs : X.stack = X.env :: X.outer) (hf : X.env.frame = some X.env.locals) (tk : TakesF n X W) (I : Inv X pins σ H s) (hi : PI X tg iter wi) (L : LcOk n X elt tg ifs scope own g tt te)
    (hfs : ∀ x, foldedSetIterable iter X.env x = pure x) (h : tLc wi g tt (te (WE W σ)) (own.map (·.2)) σ H Q)
    (hEnd : ∀ (D C : Addr) (s' : Shared) (m : Str → Option Value) (H' : Hp) (cenv : Env), cenv.locals = C → Inv X pins σ H' s' → Q (.ref D) H' → s'.heap.Ns C m → FpOk X pins H' C → compEnds (model X.prog X.w) X.A X.xe use Qf (.ref D) cenv (.ok .next) s') :
    wpAny (model X.prog X.w) X.A (comprehension (.ListComp elt [⟨tg, iter, ifs, 0⟩] scope pos) scope X.env pos' (newList []) false (eval iter X.env) use) Qf X.xe s := by
  have cells : ∀ y ∈ scope.names, y.2 = .free → ∃ c, X.env.cells.lookup y.1 = some c := fun y hy e => (L.ok.free y hy e).elim (fun z => I.ok.has _ (.inl z)) fun z => I.ok.has _ (.inr z)
  refine comprehension_at (use := use) rfl hfs (closure_ok cells) L.ok.kind (fun y hy e => (L.ok.uniq y hy).trans (by rw [e])) (thn (hi.run pins s σ H _ I h) fun xv s1 h1 => thn h1 fun itv s2 h2 => ?_)
  obtain ⟨it, fp, tn, J, H2, rfl, I2, T, st2, f2, q⟩ := h2
  refine wpAny_newObj_type (newEnv_comp ?_) (by show 0 ≤ sizeLine; decide)
  obtain ⟨Wn, ⟨m0, w0⟩, turn⟩ := q s2.heap.objs.size (I2.hok.fresh (Nat.le_refl _))
  have I3 : Inv X pins σ (upd H2 s2.heap.objs.size (.lst [])) { s2 with heap := s2.heap.push { cls := .type "list", data := .seq ([] : List Value).toArray } } :=
    I2.laid (t' := s2.toks) (fun b o e => Heap.get?_push_of_some _ e) (Nat.le_refl _) ⟨Nat.zero_le _, [], 0, .nil, Heap.get?_push_size _ rfl⟩
  have old : ∀ b o, s2.heap.get? b = some o → ({ s2 with heap := s2.heap.push { cls := .type "list", data := .seq ([] : List Value).toArray } } : Shared).heap.get? b = some o := fun b o e => Heap.get?_push_of_some _ e
  have sz : ({ s2 with heap := s2.heap.push { cls := .type "list", data := .seq ([] : List Value).toArray } } : Shared).heap.objs.size = s2.heap.objs.size + 1 := Heap.size_push ..
  have f3 : ∀ b ∈ fp, FpOk X pins (upd H2 s2.heap.objs.size (.lst [])) b ∧ b < ({ s2 with heap := s2.heap.push { cls := .type "list", data := .seq ([] : List Value).toArray } } : Shared).heap.objs.size := fun b hb => by
    obtain ⟨o, e, _⟩ := T.obj _ _ st2 b hb
    have lt := Heap.lt_size e
    exact ⟨⟨by rw [upd_ne (Nat.ne_of_lt lt)]; exact (f2 b hb).1, (f2 b hb).2⟩, by rw [sz]; exact Nat.lt_succ_of_lt lt⟩
  have st3 := T.keep _ _ _ st2 fun b _ o e => old b o e
  generalize s2.heap.objs.size = D at I3 w0 turn f3 ⊢
  generalize upd H2 D (.lst []) = H3 at I3 w0 f3
  generalize ({ s2 with heap := s2.heap.push { cls := .type "list", data := .seq ([] : List Value).toArray } } : Shared) = s3 at I3 f3 st3 ⊢
  have I4 := block_start I3 L.ok hN f3
  have st4 : tn 0 (pushCells (s3.heap.push { cls := .type "dict", data := .dict #[] }) scope.names) := T.keep _ _ _ st3 fun b _ o e => pushCells_keeps _ _ _ _ (Heap.get?_push_of_some _ e)
  refine codeAny_compStart_list ?_ (T.self X.A 0 _ _ _ st4 ?_) <;>
  · refine lcX_loop (Wn := Wn) (m0 := m0) (E1 := WE W σ) (fp := fp) (s3 := s3) (Q := Q) hc L rfl T (blk_out hs hf tk I3 rfl rfl f3 fun e s' z => z) I4 st4 (fun b hb => (f3 b hb).1.1) w0 turn fun s6 H5 I6 qq => ?_
    have nC : H5 s3.heap.objs.size = none := I6.free
    obtain ⟨m, hn, _⟩ := I6.loc
    exact hEnd D s3.heap.objs.size s6 m H5 _ rfl (I3.call' (ch := fp) I6.os I6.base I6.hok I6.bare fun b hb => ⟨(f3 b hb).1.2.2.2.1, (f3 b hb).1.2.1, (f3 b hb).1.2.2.2.2.1, (f3 b hb).1.2.2.2.2.2⟩) qq hn (I3.fpOk (Nat.le_refl _) nC)
end
section
variable {n : Bool} {X : Cx} {W : WX} {elt tg iter : Expr} {ifs : List Expr} {scope : Scope} {own : List (Str × Nat)} {pos : Pos} {wi : TI} {g : TG} {tt : TT} {te : XK → TE}
theorem pe_lcX (hc : X.calm = true) (hN : X.N.Nodup) (hs : X.stack = X.env :: X.outer) (hf : X.env.frame = some X.env.locals) (tk : TakesF n X W) (hi : PI X tg iter wi) (L : LcOk n X elt tg ifs scope own g tt te) (hfs : ∀ x, foldedSetIterable iter X.env x = pure x := by intro _; rfl) :
    PE X (.ListComp elt [⟨tg, iter, ifs, 0⟩] scope pos) (tLcX wi g tt te (own.map (·.2)) (WE W)) := by
  constructor
  intro pins s σ H Q I h
  rw [eval_ListComp]
  refine lcX_core hc hN hs hf tk I hi L hfs h fun D C s' m H' cenv hC I' q hn f => ?_
  show ∃ m, s'.heap.Ns cenv.locals m ∧ ∀ h', Heap.SameBut cenv.locals s'.heap h' → EP X pins σ Q (.ref D) { s' with heap := h' }
  rw [hC]
  obtain ⟨f0, f1, _, f3, f4, f5⟩ := f
  exact ⟨m, hn, fun h' sb => ⟨.ref D, H', I'.turned (t' := s'.toks) (fun b o hb e => (sb.2 b hb).trans e) f0 f1 f3 f4 f5, rfl, q⟩⟩
theorem ps_setLcX {i : Nat} {y : Str} {py spos : Pos} (hc : X.calm = true) (hN : X.N.Nodup) (hy : X.N[i]? = some y) (hyl : X.env.scope.names.lookup y = some .local) (hsw : swapsWith (.ListComp elt [⟨tg, iter, ifs, 0⟩] scope pos) (some (.Name y py)) spos.line X.env = pure true)
    (hs : X.stack = X.env :: X.outer) (hf : X.env.frame = some X.env.locals) (tk : TakesF n X W) (hi : PI X tg iter wi) (L : LcOk n X elt tg ifs scope own g tt te) (hfs : ∀ x, foldedSetIterable iter X.env x = pure x := by intro _; rfl) :
    PS X (.Assign [.Name y py] (.ListComp elt [⟨tg, iter, ifs, 0⟩] scope pos) spos) (tAsg (tLcX wi g tt te (own.map (·.2)) (WE W)) (gName i)) := by
  constructor
  intro pins s σ H D I h
  have h : tLc wi g tt (te (WE W σ)) (own.map (·.2)) σ H (fun x H1 => gName i x σ H1 D.nx) := h
  rw [exec_Assign_Name_used _ _ _ _ hsw]
  refine wpAny_bind (wpAny_standAt (wpAny_bind (wpAny_bind (thn (lcX_core (Qf := fun _ s' => SP X pins D .next s') hc hN hs hf tk I hi L hfs h fun l C s' m H' cenv hC I' q hn f => ?_) fun _ s' hq => wpAny_pure (wpAny_pure hq)))))
  show wpAny _ _ (assign (.Name y py) X.env (.ref l)) (fun _ s'' => ∃ m, s''.heap.Ns cenv.locals m ∧ ∀ h', Heap.SameBut cenv.locals s''.heap h' → SP X pins D .next { s'' with heap := h' }) _ _
  rw [hC]
  obtain ⟨f0, f1, _, f3, f4, f5⟩ := f
  refine wpAny_assign_Name (store_ok2 (v := V.ref l) I' hN hy (.inl hyl) rfl (fun s2 I2 ⟨a, sb, ha⟩ => ⟨m, hn.sameBut sb ?_, fun h3 sb3 => ⟨_, H', I2.turned (t' := s2.toks) (fun b o hb e => (sb3.2 b hb).trans e) f0 f1 f3 f4 f5, q⟩⟩) (.inr hyl))
  rcases ha with z | z
  · rw [z]; exact f1
  · exact fun e => f4 y a z e.symm
end
/-! Fo, make: an own class that has no __init__. -/
structure Mk0 (K : PySem.W.Frag) (C : Addr) : Prop where
  makes : PySem.W.makesIn K C = true
  init : PySem.W.findIn K (.ref C) "__init__" = some (some (.builtin "object.__init__"))
  top : PySem.W.mroIn K C (.type "object") = some true
  kp : PySem.W.keepIn K (.ref C) = true
theorem make_new0 {prog : Program} {w : World} {A : Around} {K : PySem.W.Frag} {C : Addr} {R : Result → Shared → Prop} {s : Shared} (M : Mk0 K C) (X : K.In s.heap)
    (X2 : K.In ((s.heap.push PySem.W.emptyDict).push (PySem.W.instObj C s.heap.objs.size)))
    (h : R (.ok (.ret (.ref (s.heap.objs.size + 1)))) { s with heap := (s.heap.push PySem.W.emptyDict).push (PySem.W.instObj C s.heap.objs.size) }) :
    codeAny (model prog w) A (.call (.ref C) ⟨[], []⟩) R s := by
  refine make_map0 X M.makes M.init (fun self => PySem.W.Looks.of_pure (PySem.W.oi_bind _)) ?_
  have ho : ((s.heap.push PySem.W.emptyDict).push (PySem.W.instObj C s.heap.objs.size)).get? (s.heap.objs.size + 1) = some (PySem.W.instObj C s.heap.objs.size) := by
    have z := Heap.get?_push_size (s.heap.push PySem.W.emptyDict) (o := PySem.W.instObj C s.heap.objs.size) rfl
    rwa [Heap.size_push] at z
  have t1 : PySem.W.Looks (model prog w) ((s.heap.push PySem.W.emptyDict).push (PySem.W.instObj C s.heap.objs.size)) (typeOf (.ref (s.heap.objs.size + 1))) (.ref C) := NwA.type_at ho rfl
  have t2 : PySem.W.Looks (model prog w) ((s.heap.push PySem.W.emptyDict).push (PySem.W.instObj C s.heap.objs.size)) (isInstance (.ref (s.heap.objs.size + 1)) (.type "object")) true := t1.andThen (PySem.W.looks_mroIn X2 M.top)
  obtain ⟨hh, g, d, t, os⟩ := s
  refine codeAny_call_builtin PySem.W.oi_plain PySem.W.entry_oi (@PySem.W.check_slot (model prog w) _ _ _ "object.__init__" "object" "__init__" _ [] [] _ PySem.W.oi_kind PySem.W.oi_split t2 (NwA.oi_args_any _ [] []) ?_)
  rw [PySem.W.oi_run]
  exact wpAny_pure (And.intro rfl h)
/-- C(): the new instance x, its dict dx -/
def tNew0 (C : Addr) : TE := fun _ H Q => ∀ x dx, H x = none → H dx = none → dx ≠ x → Q (.ref x) (upd (upd H dx (.own x)) x (.ins C dx []))
theorem g_new0 {C : Addr} {σ : St} {H : Hp} {Q : VK} (q : ∀ x dx, H x = none → H dx = none → dx ≠ x → Q (.ref x) (upd (upd H dx (.own x)) x (.ins C dx []))) : tNew0 C σ H Q := q
section
variable {X : Cx} {C : Addr} {x : Str} {p pos : Pos}
theorem pe_newO (M : Mk0 X.K C) (hm : X.mg x = some (.ref C)) (hg : Gl X x := by rfl) (hdb : (x == ("__debug__" : Str)) = false := by decide) : PE X (.Call (.Name x p) [] [] pos) (tNew0 C) := by
  refine ⟨fun pins s σ H Q I h => ?_⟩
  refine wpAny_Call_Name_kw (ld_glob I hg hm ?_ hdb)
  refine PySem.W.callWith_K0 I.kIn M.kp ?_
  have n1 := I.hok.fresh (Nat.le_succ s.heap.objs.size)
  have n2 := I.hok.fresh (Nat.le_refl s.heap.objs.size)
  have I2 := Inv.made (C := C) I
  exact wpAny_call (make_new0 M I.kIn I2.kIn ⟨V.ref (s.heap.objs.size + 1), _, I2, rfl, h _ _ n1 n2 (Nat.ne_of_lt (Nat.lt_succ_self _))⟩)
end
/-- a global that is a tuple -/
class HasTup (K : PySem.W.Frag) (x : Str) (vs : outParam (List V)) : Prop where h : ∀ H, SqT K H (He.ga K x) vs
/-! Fo, lists of ints kept as maps: slices, sums, displays -/
section
variable {K : PySem.W.Frag} {H : Hp} {Q : VK} {p q : Addr} {α : Type} {f : α → V} {ns ms : List α}
theorem g_slTo {k : Nat} (h : SqL K H p (ns.map f)) (r : ∀ l, H l = none → Q (.ref l) (upd H l (.lst ((ns.take k).map f)))) : rSlL K (.ref p) none (some (k : Int)) H Q :=
  g_slL h fun l hl => by rw [cutV_map, cutL_to]; exact r l hl
theorem g_slFrom {k : Nat} (h : SqL K H p (ns.map f)) (r : ∀ l, H l = none → Q (.ref l) (upd H l (.lst ((ns.drop k).map f)))) : rSlL K (.ref p) (some (k : Int)) none H Q :=
  g_slL h fun l hl => by rw [cutV_map, cutL_from]; exact r l hl
theorem g_slBut (h : SqL K H p (ns.map f)) (r : ∀ l, H l = none → Q (.ref l) (upd H l (.lst (ns.dropLast.map f)))) : rSlL K (.ref p) none (some (-1)) H Q :=
  g_slL h fun l hl => by rw [cutV_map, cutL_butlast]; exact r l hl
theorem g_slMid {i j : Nat} (h : SqL K H p (ns.map f)) (r : ∀ l, H l = none → Q (.ref l) (upd H l (.lst (((ns.drop i).take (j - i)).map f)))) : rSlL K (.ref p) (some (i : Int)) (some (j : Int)) H Q :=
  g_slL h fun l hl => by rw [cutV_map, cutL_both]; exact r l hl
theorem g_catM (h : H p = some (.lst (ns.map f))) (k : H q = some (.lst (ms.map f))) (hl : (ns.map f).length + (ms.map f).length ≤ sizeLine) (r : ∀ l, H l = none → Q (.ref l) (upd H l (.lst ((ns ++ ms).map f)))) : rPlus K (.ref p) (.ref q) H Q :=
  g_cat h k hl fun l nl => by rw [← List.map_append]; exact r l nl
theorem g_lst1 {a : Int} (r : ∀ l, H l = none → Q (.ref l) (upd H l (.lst (([a] : List Int).map V.int)))) : lstK [V.int a] H Q := g_lstK (by show 1 ≤ sizeLine; decide) r
theorem g_lst2 {a b : Int} (r : ∀ l, H l = none → Q (.ref l) (upd H l (.lst (([a, b] : List Int).map V.int)))) : lstK [V.int a, V.int b] H Q := g_lstK (by show 2 ≤ sizeLine; decide) r
theorem rep_flat (n : Nat) (b : Int) : (List.replicate n (([b] : List Int).map V.int)).flatten = (List.replicate n b).map V.int := by
  induction n with
  | zero => rfl
  | succ n ih => rw [List.replicate_succ, List.flatten_cons, ih, List.replicate_succ]; rfl
theorem g_rep1 {b i : Int} (h : H p = some (.lst (([b] : List Int).map V.int))) (hl : -(2 ^ 62) ≤ i ∧ i ≤ 1000000) (r : ∀ l, H l = none → Q (.ref l) (upd H l (.lst ((List.replicate i.toNat b).map V.int)))) : rTimes (.ref p) (.int i) H Q :=
  g_rep h (by omega) (by omega) (Nat.le_trans (m := 1000000) (by rw [List.length_map, List.length_singleton]; omega) (by decide)) fun l nl => by rw [rep_flat]; exact r l nl
theorem g_appI {z : Int} {ns : List Int} (h : H p = some (.lst (ns.map V.int))) (hl : (ns.map V.int).length + 1 ≤ sizeLine) (r : Q .non (upd H p (.lst ((ns ++ [z]).map V.int)))) : rAppend (.ref p) [.int z] H Q :=
  g_append h (by omega) (by rw [List.map_append] at r; exact r)
end
section
variable {K : PySem.W.Frag} {H : Hp} {Q : VK} {p : Addr} {x : V} {xs : List V} {b : Bool}
theorem g_amongT (h : SqT K H p xs) (fx : flatV x = true) (fs : xs.all flatV = true) (e : inV x xs = b) (q : Q (.bl b) H) : rAmong K x (.ref p) H Q := .inl ⟨p, xs, rfl, .inr h, fx, fs, by rw [e]; exact q⟩
theorem g_amongL (h : SqL K H p xs) (fx : flatV x = true) (fs : xs.all flatV = true) (e : inV x xs = b) (q : Q (.bl b) H) : rAmong K x (.ref p) H Q := .inl ⟨p, xs, rfl, .inl h, fx, fs, by rw [e]; exact q⟩
theorem g_notamongL (h : SqL K H p xs) (fx : flatV x = true) (fs : xs.all flatV = true) (e : inV x xs = b) (q : Q (.bl (!b)) H) : rNotAmong K x (.ref p) H Q := .inl ⟨p, xs, rfl, .inl h, fx, fs, by rw [e]; exact q⟩
theorem g_notamongT (h : SqT K H p xs) (fx : flatV x = true) (fs : xs.all flatV = true) (e : inV x xs = b) (q : Q (.bl (!b)) H) : rNotAmong K x (.ref p) H Q := .inl ⟨p, xs, rfl, .inr h, fx, fs, by rw [e]; exact q⟩
end
/-! Fo, a tuple of the module's own top, asked by its methods -/
class HasTupD (K : PySem.W.Frag) (x : Str) : Prop where h : ∃ o, K.lookup (He.ga K x) = some o ∧ o.cls = .type "tuple" ∧ o.dict = none
/-! Fo, end: from a law's promise to its statement. -/
theorem cx_any {P : Program} {w : World} {K : PySem.W.Frag} {mg : Str → Option Value} {base : Heap} {k : Nat} {f : Addr} {fd : FuncData} {ps : List Str} {sp : Sp} (F : FnOk P w K mg base (L2.CX P w) k f fd ps sp) :
    FnOk P w K mg base (fun o H s E u s' => ∃ (P : Program) (w : World), L2.CX P w o H s E u s') k f fd ps sp :=
  ⟨F.len, fun A outer s H args us vs Q E hr he hb hv hs => codeAny_mono (F.run A outer s H args us vs Q E hr he hb hv hs) fun r s' h => match r, h with
    | .ok (.ret u), h => h
    | .ok .next, h => h
    | .ok .brk, h => h
    | .ok .cont, h => h
    | .error e, h => ⟨P, w, h⟩⟩
theorem exn_ok {K : PySem.W.Frag} {h : Heap} {mg : Str → Option Value} {x : Str} (KX : K.In h) (G : h.Ns mainGlobals mg) (c : (He.Fa.glo x).ok K = true) (d : (He.Fa.exc x).ok K = true) : Exn K mg x (He.ga K x) := by
  obtain ⟨a, b, e, f⟩ := He.exc_ok d
  exact ⟨He.glo_ok KX G c, a, b, e, f⟩
theorem ok_of {n : Bool} {P : Program} {w : World} {K : PySem.W.Frag} {mg : Str → Option Value} {base : Heap} {x qual : Str} {st : Stmt} {f : Addr} {fd : FuncData} {N ps : List Str} {k : Nat} {sp : Sp} {T : XK → TS} {dvs : List V} (F : FunD K x qual (defArgs st) (defBody st) (defScope st) dvs [] f fd) (S : FnScope N ps (defScope st))
    (len : ∀ vs H Q E, sp vs H Q E → vs.length = ps.length)
    (body : ∀ (cdv : Value) (A : Around) (outer : List Env) (s : Shared) (H : Hp) (E : XK), Room k (A.deeper (envOfC qual (defScope st) s.heap.objs.size f cdv)) → PSs (cxD n P w K mg base N qual st f cdv A outer s H E) (defBody st) (T E))
    (read : ∀ vs H Q E, sp vs H Q E → T E { nx := fun _ H' => Q .non H', rt := Q } (start N vs) H) : FnOk P w K mg base (CXF n P w) (k + 1) f fd ps sp :=
  F.ok S len fun cdv A outer s H vs Q E hr h => ⟨T E, body cdv A outer s H E hr, read vs H Q E h⟩
/-! ### further facts of the written part -/
inductive Xf where
  | ins (C : Str) | kit (C D : Str) (b : Bool) | kitT (C : Str) (n : String) (b : Bool) | kitB (n : String) (D : Str) (b : Bool) | tup (x : Str) (vs : List He.Dv) | exc (C : Str) | mk0 (C : Str) | tupd (x : Str)
def Xf.ok (K : PySem.W.Frag) : Xf → Bool
  | .ins C => He.eqO (PySem.W.findIn K (.ref (He.ga K C)) "__class__") (some (some (.builtin "object.__class__"))) && (He.eqO (PySem.W.specialIn K (.builtin "object.__class__") "__get__") (some (some (.builtin "getset_descriptor.__get__"))) &&
      (decide (PySem.W.takesIn K (.builtin "object.__class__") = some true) && decide (PySem.W.mroIn K (He.ga K C) (.type "object") = some true)))
  | .kit C D b => decide (PySem.W.kitOne K (.ref (He.ga K C)) (.ref (He.ga K D)) = some b)
  | .kitT C n b => decide (PySem.W.kitOne K (.ref (He.ga K C)) (.type n) = some b)
  | .kitB n D b => decide (PySem.W.kitOne K (.type n) (.ref (He.ga K D)) = some b)
  | .tup x vs => He.tupB K x vs
  | .tupd x => (match K.lookup (He.ga K x) with
    | some ⟨.type c, none, _, _⟩ => decide (c = "tuple")
    | _ => false)
  | .mk0 C => PySem.W.makesIn K (He.ga K C) && (He.eqO (PySem.W.findIn K (.ref (He.ga K C)) "__init__") (some (some (.builtin "object.__init__"))) && (decide (PySem.W.mroIn K (He.ga K C) (.type "object") = some true) && PySem.W.keepIn K (.ref (He.ga K C))))
  | .exc C => He.eqO (PySem.W.findIn K (.ref (He.ga K C)) "__getattribute__") (some (some (.builtin "BaseException.__getattribute__"))) && (He.eqO (PySem.W.findIn K (.ref (He.ga K C)) "__getattr__") (some none) &&
      (decide (PySem.W.subIn K (.ref (He.ga K C)) (.type "BaseException") = some true) && (PySem.W.hasDictIn K (He.ga K C) && (He.eqO (PySem.W.findIn K (.ref (He.ga K C)) "__class__") (some (some (.builtin "object.__class__"))) &&
      (He.eqO (PySem.W.specialIn K (.builtin "object.__class__") "__get__") (some (some (.builtin "getset_descriptor.__get__"))) && (decide (PySem.W.takesIn K (.builtin "object.__class__") = some true) && decide (PySem.W.mroIn K (He.ga K C) (.type "object") = some true)))))))
abbrev AlX : Type := Bool × He.AlD
def obsX (fa : List He.Fa) (fn : List He.DefD) (xf : List Xf) (K : PySem.W.Frag) : AlX := (xf.all fun f => f.ok K, He.obsD fa fn K)
structure SaysX (fa : List He.Fa) (fn : List He.DefD) (xf : List Xf) (K : PySem.W.Frag) : Prop where
  d : He.SaysD fa fn K
  x : (xf.all fun f => f.ok K) = true
/-! ### what the module's names reach, each once; seen is a row of bits -/
def seeX (acc : List Addr × List Addr × Nat) (b : Addr) : List Addr × List Addr × Nat :=
  if Nat.beq (Nat.land (Nat.shiftRight acc.2.2 b) 1) 0 then (b :: acc.1, b :: acc.2.1, Nat.lor acc.2.2 (Nat.shiftLeft 1 b)) else acc
def growX (g : Addr → Option Obj) (st : List Addr × List Addr × Nat) : List Addr × List Addr × Nat :=
  st.1.foldl (fun acc a => match g a with
    | some o => (He.refsD o).foldl seeX acc
    | none => acc) ([], st.2.1, st.2.2)
def stX (g : Addr → Option Obj) : Nat → List Addr × List Addr × Nat
  | 0 => ([mainGlobals], [mainGlobals], Nat.shiftLeft 1 mainGlobals)
  | n + 1 => growX g (stX g n)
def asX (g : Addr → Option Obj) (n : Nat) : List Addr := (stX g n).2.1.reverse
def obsXG (n : Nat) (fa : List He.Fa) (fn : List He.DefD) (xf : List Xf) (g : Addr → Option Obj) : AlX := obsX fa fn xf (He.frG g (asX g n))
def hookX (n : Nat) (fa : List He.Fa) (fn : List He.DefD) (xf : List Xf) : PySem.W.Hook where
  α := AlX
  obs := fun s => obsXG n fa fn xf s.heap.get?
  val := fun _ => (true, He.valD fn)
  says := fun _ h => ∃ K : PySem.W.Frag, K.In h ∧ SaysX fa fn xf K
  of := fun _ s e => ⟨He.frG s.heap.get? (asX s.heap.get? n), He.frG_in, ⟨congrArg (fun z : AlX => z.2) e, congrArg (fun z : AlX => z.1) e⟩⟩
  keeps := fun _ _ _ ⟨K, hK, c⟩ k => ⟨K, PySem.W.Frag.In.keeps hK k, c⟩
theorem obsXG_eq {n : Nat} {fa : List He.Fa} {fn : List He.DefD} {xf : List Xf} {g : Addr → Option Obj} {s : Shared} (h : ∀ a, g a = s.heap.get? a) : obsXG n fa fn xf g = (hookX n fa fn xf).obs s := by
  have e : g = s.heap.get? := funext h
  rw [e] <;> rfl
theorem allB_app {α : Type} {p : α → Bool} {l k : List α} (h : l.all p = true) (h2 : k.all p = true) : (l ++ k).all p = true := by rw [List.all_append, h, h2]; rfl
theorem obsX_join {fa1 fa2 : List He.Fa} {fn1 fn2 : List He.DefD} {xf1 xf2 : List Xf} {K : PySem.W.Frag} (h1 : obsX fa1 fn1 xf1 K = (true, He.valD fn1)) (h2 : obsX fa2 fn2 xf2 K = (true, He.valD fn2)) : obsX (fa1 ++ fa2) (fn1 ++ fn2) (xf1 ++ xf2) K = (true, He.valD (fn1 ++ fn2)) := by
  obtain ⟨x1, d1⟩ := Prod.mk.injEq .. ▸ h1
  obtain ⟨x2, d2⟩ := Prod.mk.injEq .. ▸ h2
  obtain ⟨a1, m1⟩ := Prod.mk.injEq .. ▸ (show (_, _) = (_, _) from d1)
  obtain ⟨a2, m2⟩ := Prod.mk.injEq .. ▸ (show (_, _) = (_, _) from d2)
  obtain ⟨a1, b1⟩ := He.ba a1
  obtain ⟨a2, b2⟩ := He.ba a2
  refine Prod.ext (allB_app x1 x2) (Prod.ext ?_ ?_)
  · show (((fa1 ++ fa2).all fun f => f.ok K) && (fn1 ++ fn2).all fun d => d.ok K) = true
    rw [allB_app a1 a2, allB_app b1 b2]
    rfl
  · show (fn1 ++ fn2).map (fun d => He.fnW K d.at_) = (fn1 ++ fn2).map He.DefD.val
    rw [List.map_append, List.map_append, m1, m2]
/-! ### the run of the main text, in parts -/
section
open PySem.W PySem.Calls HandSHeadRun
def RunA (r : OpenRow) (q : Program) (M : Nat) (loose : List PySem.Str) (w : World) : Prop :=
  ∀ os : OsState, (endF (stepQ (denQ tabQ) r.prog w) M r.prog w os).map (fun s => (looksF r.prog (boot_heap w.params) s.abs, seenQ q loose (importedModules r.prog.main.body) (fun s => xlAt q [] s && recOk r.toRowW.records s) s.abs)) = some (true, openGood q loose)
def RunF (r : OpenRow) (M : Nat) (fa : List He.Fa) (fn : List He.DefD) (xf : List Xf) (w : World) : Prop :=
  ∀ os : OsState, (endF (stepQ (denQ tabQ) r.prog w) M r.prog w os).map (fun s => obsXG 6 fa fn xf (HandSHeadRun.getT s)) = some (true, He.valD fn)
theorem run_join {r : OpenRow} {q : Program} {M : Nat} {loose : List PySem.Str} {w : World} {fa1 fa2 : List He.Fa} {fn1 fn2 : List He.DefD} {xf1 xf2 : List Xf} (h0 : RunA r q M loose w) (h1 : RunF r M fa1 fn1 xf1 w) (h2 : RunF r M fa2 fn2 xf2 w) :
    RunEq r q (hookX 6 (fa1 ++ fa2) (fn1 ++ fn2) (xf1 ++ xf2)) (fun s => obsXG 6 (fa1 ++ fa2) (fn1 ++ fn2) (xf1 ++ xf2) (HandSHeadRun.getT s)) M loose w := by
  intro os
  have h0 := h0 os
  have h1 := h1 os
  have h2 := h2 os
  revert h0 h1 h2
  generalize endF (stepQ (denQ tabQ) r.prog w) M r.prog w os = e
  intro h0 h1 h2
  cases e with
  | none => cases h0
  | some s =>
    have a := Option.some.inj (show some (looksF r.prog (boot_heap w.params) s.abs, seenQ q loose (importedModules r.prog.main.body) (fun s => xlAt q [] s && recOk r.toRowW.records s) s.abs) = some (true, openGood q loose) from h0)
    have b := Option.some.inj (show some (obsXG 6 fa1 fn1 xf1 (HandSHeadRun.getT s)) = some (true, He.valD fn1) from h1)
    have c := Option.some.inj (show some (obsXG 6 fa2 fn2 xf2 (HandSHeadRun.getT s)) = some (true, He.valD fn2) from h2)
    show some (looksF r.prog (boot_heap w.params) s.abs, seenQ q loose (importedModules r.prog.main.body) (fun s => xlAt q [] s && recOk r.toRowW.records s) s.abs, obsXG 6 (fa1 ++ fa2) (fn1 ++ fn2) (xf1 ++ xf2) (HandSHeadRun.getT s)) = some (true, openGood q loose, (true, He.valD (fn1 ++ fn2)))
    have d : obsXG 6 (fa1 ++ fa2) (fn1 ++ fn2) (xf1 ++ xf2) (HandSHeadRun.getT s) = (true, He.valD (fn1 ++ fn2)) := obsX_join b c
    rw [d]
    have a1 : looksF r.prog (boot_heap w.params) s.abs = true := congrArg (fun z => z.1) a
    have a2 := congrArg (fun z => z.2) a
    rw [a1]
    show some (true, _, _) = _
    rw [show seenQ q loose (importedModules r.prog.main.body) (fun s => xlAt q [] s && recOk r.toRowW.records s) s.abs = openGood q loose from a2]
end
section
variable {fa : List He.Fa} {fn : List He.DefD} {xf : List Xf} {K : PySem.W.Frag}
theorem SaysX.fact (c : SaysX fa fn xf K) (i : Nat) {f : He.Fa} (h : fa[i]? = some f := by rfl) : f.ok K = true := c.d.fact i h
theorem SaysX.def_ (c : SaysX fa fn xf K) (i : Nat) {d : He.DefD} (h : fn[i]? = some d := by rfl) : ∃ fd, FunD K d.name d.qual d.params d.body d.scope (d.dvs K) (d.kws K) (He.fAd K d.at_) fd := c.d.def_ i h
theorem SaysX.ext (c : SaysX fa fn xf K) (i : Nat) {f : Xf} (h : xf[i]? = some f := by rfl) : f.ok K = true := List.all_eq_true.mp c.x f (List.mem_of_getElem? h)
end
theorem ins_ok {K : PySem.W.Frag} {C : Str} (c : (Xf.ins C).ok K = true) : HasIns K C := by
  obtain ⟨c1, c⟩ := He.ba c
  obtain ⟨c2, c⟩ := He.ba c
  obtain ⟨c3, c4⟩ := He.ba c
  exact ⟨He.eqO_ok c1, He.eqO_ok c2, of_decide_eq_true c3, of_decide_eq_true c4⟩
theorem kit_ok {K : PySem.W.Frag} {C D : Str} {b : Bool} (c : (Xf.kit C D b).ok K = true) : HasKit K C D b := ⟨of_decide_eq_true c⟩
theorem hexc_ok {K : PySem.W.Frag} {C : Str} (c : (Xf.exc C).ok K = true) : HasExc K C := by
  obtain ⟨c1, c⟩ := He.ba c
  obtain ⟨c2, c⟩ := He.ba c
  obtain ⟨c3, c⟩ := He.ba c
  obtain ⟨c4, c⟩ := He.ba c
  obtain ⟨c5, c⟩ := He.ba c
  obtain ⟨c6, c⟩ := He.ba c
  obtain ⟨c7, c8⟩ := He.ba c
  exact ⟨⟨He.eqO_ok c1, He.eqO_ok c2, of_decide_eq_true c3, c4, He.eqO_ok c5, He.eqO_ok c6, of_decide_eq_true c7, of_decide_eq_true c8⟩⟩
theorem kitT_ok {K : PySem.W.Frag} {C : Str} {t : String} {b : Bool} (c : (Xf.kitT C t b).ok K = true) : HasKitT K C t b := ⟨of_decide_eq_true c⟩
theorem hexm_ok {K : PySem.W.Frag} {C D : Str} {b : Bool} (c : (He.Fa.exm C D b).ok K = true) : HasExm K C D b := ⟨He.exm_ok c⟩
theorem mk0_ok {K : PySem.W.Frag} {C : Str} (c : (Xf.mk0 C).ok K = true) : Mk0 K (He.ga K C) := by
  obtain ⟨c1, c⟩ := He.ba c
  obtain ⟨c2, c⟩ := He.ba c
  obtain ⟨c3, c4⟩ := He.ba c
  exact ⟨c1, He.eqO_ok c2, of_decide_eq_true c3, c4⟩
theorem tup_ok {K : PySem.W.Frag} {x : Str} {vs : List He.Dv} (c : (Xf.tup x vs).ok K = true) : HasTup K x (vs.map (He.Dv.v K)) := ⟨fun H => He.tupB_ok c H⟩
theorem tupd_ok {K : PySem.W.Frag} {x : Str} (c : (Xf.tupd x).ok K = true) : HasTupD K x := by
  have c : (match K.lookup (He.ga K x) with
    | some ⟨.type c, none, _, _⟩ => decide (c = "tuple")
    | _ => false) = true := c
  cases e : K.lookup (He.ga K x) with
  | none => rw [e] at c; cases c
  | some o =>
    obtain ⟨oc, od, dt, sl⟩ := o
    rw [e] at c
    cases oc with
    | type n =>
      cases od with
      | none => exact ⟨_, e, congrArg Value.type (of_decide_eq_true c), rfl⟩
      | some _ => cases c
    | _ => cases c
end Fo
namespace Fo
open PySem PySem.Spec PyProof.Rows L2
abbrev W_ : PySem.W.OpenLaw := PySem.Challenge.rw_foretell_k17_a_book
def top (i : Nat) : Stmt := PySem.Challenge.pw_foretell_k17_a_book.main.body.getD i (.Pass ⟨0, 0, 0, 0⟩)
abbrev s_is_whole : Stmt := top 7
abbrev N_is_whole : List Str := ["thing"]
theorem sc_is_whole : FnScope N_is_whole ["thing"] (defScope s_is_whole) := ⟨rfl, rfl, rfl, by decide +kernel, rfl, by decide +kernel, by decide +kernel⟩
abbrev s_is_bit : Stmt := top 8
abbrev N_is_bit : List Str := ["thing"]
theorem sc_is_bit : FnScope N_is_bit ["thing"] (defScope s_is_bit) := ⟨rfl, rfl, rfl, by decide +kernel, rfl, by decide +kernel, by decide +kernel⟩
abbrev s_checked_bit : Stmt := top 9
abbrev N_checked_bit : List Str := ["thing"]
theorem sc_checked_bit : FnScope N_checked_bit ["thing"] (defScope s_checked_bit) := ⟨rfl, rfl, rfl, by decide +kernel, rfl, by decide +kernel, by decide +kernel⟩
abbrev s_Even_init : Stmt := inClass (top 13) 0
abbrev N_Even_init : List Str := ["self"]
theorem sc_Even_init : FnScope N_Even_init ["self"] (defScope s_Even_init) := ⟨rfl, rfl, rfl, by decide +kernel, rfl, by decide +kernel, by decide +kernel⟩
abbrev s_Even_chance : Stmt := inClass (top 13) 1
abbrev N_Even_chance : List Str := ["self"]
theorem sc_Even_chance : FnScope N_Even_chance ["self"] (defScope s_Even_chance) := ⟨rfl, rfl, rfl, by decide +kernel, rfl, by decide +kernel, by decide +kernel⟩
abbrev s_Even_seen : Stmt := inClass (top 13) 2
abbrev N_Even_seen : List Str := ["self", "bit"]
theorem sc_Even_seen : FnScope N_Even_seen ["self", "bit"] (defScope s_Even_seen) := ⟨rfl, rfl, rfl, by decide +kernel, rfl, by decide +kernel, by decide +kernel⟩
abbrev s_Quick_init : Stmt := inClass (top 14) 0
abbrev N_Quick_init : List Str := ["self"]
theorem sc_Quick_init : FnScope N_Quick_init ["self"] (defScope s_Quick_init) := ⟨rfl, rfl, rfl, by decide +kernel, rfl, by decide +kernel, by decide +kernel⟩
abbrev s_Quick_chance : Stmt := inClass (top 14) 1
abbrev N_Quick_chance : List Str := ["self"]
theorem sc_Quick_chance : FnScope N_Quick_chance ["self"] (defScope s_Quick_chance) := ⟨rfl, rfl, rfl, by decide +kernel, rfl, by decide +kernel, by decide +kernel⟩
abbrev s_Quick_seen : Stmt := inClass (top 14) 2
abbrev N_Quick_seen : List Str := ["self", "bit"]
theorem sc_Quick_seen : FnScope N_Quick_seen ["self", "bit"] (defScope s_Quick_seen) := ⟨rfl, rfl, rfl, by decide +kernel, rfl, by decide +kernel, by decide +kernel⟩
abbrev s_Run_init : Stmt := inClass (top 15) 0
abbrev N_Run_init : List Str := ["self"]
theorem sc_Run_init : FnScope N_Run_init ["self"] (defScope s_Run_init) := ⟨rfl, rfl, rfl, by decide +kernel, rfl, by decide +kernel, by decide +kernel⟩
abbrev s_Run_chance : Stmt := inClass (top 15) 1
abbrev N_Run_chance : List Str := ["self", "same"]
theorem sc_Run_chance : FnScope N_Run_chance ["self"] (defScope s_Run_chance) := ⟨rfl, rfl, rfl, by decide +kernel, rfl, by decide +kernel, by decide +kernel⟩
abbrev s_Run_seen : Stmt := inClass (top 15) 2
abbrev N_Run_seen : List Str := ["self", "bit"]
theorem sc_Run_seen : FnScope N_Run_seen ["self", "bit"] (defScope s_Run_seen) := ⟨rfl, rfl, rfl, by decide +kernel, rfl, by decide +kernel, by decide +kernel⟩
abbrev s_slot_of : Stmt := top 16
abbrev N_slot_of : List Str := ["kind"]
theorem sc_slot_of : FnScope N_slot_of ["kind"] (defScope s_slot_of) := ⟨rfl, rfl, rfl, by decide +kernel, rfl, by decide +kernel, by decide +kernel⟩
abbrev s_context_of : Stmt := top 19
abbrev N_context_of : List Str := ["look", "signs", "node", "found", "place"]
theorem sc_context_of : FnScope N_context_of ["look", "signs", "node"] (defScope s_context_of) := ⟨rfl, rfl, rfl, by decide +kernel, rfl, by decide +kernel, by decide +kernel⟩
abbrev s_Book_init : Stmt := inClass (top 20) 0
abbrev N_Book_init : List Str := ["self", "look"]
theorem sc_Book_init : FnScope N_Book_init ["self", "look"] (defScope s_Book_init) := ⟨rfl, rfl, rfl, by decide +kernel, rfl, by decide +kernel, by decide +kernel⟩
abbrev s_Book_chance : Stmt := inClass (top 20) 1
abbrev N_Book_chance : List Str := ["self", "signs", "node", "context"]
theorem sc_Book_chance : FnScope N_Book_chance ["self", "signs", "node"] (defScope s_Book_chance) := ⟨rfl, rfl, rfl, by decide +kernel, rfl, by decide +kernel, by decide +kernel⟩
abbrev s_Book_seen : Stmt := inClass (top 20) 2
abbrev N_Book_seen : List Str := ["self", "signs", "node", "bit", "context"]
theorem sc_Book_seen : FnScope N_Book_seen ["self", "signs", "node", "bit"] (defScope s_Book_seen) := ⟨rfl, rfl, rfl, by decide +kernel, rfl, by decide +kernel, by decide +kernel⟩
abbrev s_Lcell17 : Stmt := top 22
abbrev N_Lcell17 : List Str := ["_law_script", "_law_k"]
theorem sc_Lcell17 : FnScope N_Lcell17 ["_law_script", "_law_k"] (defScope s_Lcell17) := ⟨rfl, rfl, rfl, by decide +kernel, rfl, by decide +kernel, by decide +kernel⟩
abbrev s_Lwhole : Stmt := top 23
abbrev N_Lwhole : List Str := ["_law_found"]
theorem sc_Lwhole : FnScope N_Lwhole ["_law_found"] (defScope s_Lwhole) := ⟨rfl, rfl, rfl, by decide +kernel, rfl, by decide +kernel, by decide +kernel⟩
abbrev s_Lplaces : Stmt := top 24
abbrev N_Lplaces : List Str := ["_law_cell", "_law_places_here", "_law_place"]
theorem sc_Lplaces : FnScope N_Lplaces ["_law_cell"] (defScope s_Lplaces) := ⟨rfl, rfl, rfl, by decide +kernel, rfl, by decide +kernel, by decide +kernel⟩
abbrev s_Llook : Stmt := top 25
abbrev N_Llook : List Str := ["_law_cell", "_law_places_here"]
theorem sc_Llook : FnScope N_Llook ["_law_cell"] (defScope s_Llook) := ⟨rfl, rfl, rfl, by decide +kernel, rfl, by decide +kernel, by decide +kernel⟩
abbrev s_Lseen : Stmt := top 26
abbrev N_Lseen : List Str := ["_law_state", "_law_bit", "_law_counts", "_law_held", "_law_length"]
theorem sc_Lseen : FnScope N_Lseen ["_law_state", "_law_bit"] (defScope s_Lseen) := ⟨rfl, rfl, rfl, by decide +kernel, rfl, by decide +kernel, by decide +kernel⟩
abbrev s_Ldue : Stmt := top 27
abbrev N_Ldue : List Str := ["_law_look_here", "_law_state", "_law_same"]
theorem sc_Ldue : FnScope N_Ldue ["_law_look_here", "_law_state"] (defScope s_Ldue) := ⟨rfl, rfl, rfl, by decide +kernel, rfl, by decide +kernel, by decide +kernel⟩
abbrev s_Ldecisions : Stmt := top 28
abbrev N_Ldecisions : List Str := ["_law_texts", "_law_found", "_law_text", "_law_k", "_law_node", "_law_place", "_law_bit"]
theorem sc_Ldecisions : FnScope N_Ldecisions ["_law_texts"] (defScope s_Ldecisions) := ⟨rfl, rfl, rfl, by decide +kernel, rfl, by decide +kernel, by decide +kernel⟩
abbrev s_Lcontext : Stmt := top 29
abbrev N_Lcontext : List Str := ["_law_look_here", "_law_signs", "_law_node", "_law_some", "_law_place"]
theorem sc_Lcontext : FnScope N_Lcontext ["_law_look_here", "_law_signs", "_law_node"] (defScope s_Lcontext) := ⟨rfl, rfl, rfl, by decide +kernel, rfl, by decide +kernel, by decide +kernel⟩
abbrev s_Lright : Stmt := top 30
abbrev N_Lright : List Str := ["_law_book", "_law_look_here", "_law_seen_here", "_law_row", "_law_node", "_law_signs", "_law_found", "_law_due_here"]
theorem sc_Lright : FnScope N_Lright ["_law_book", "_law_look_here", "_law_seen_here", "_law_row", "_law_node"] (defScope s_Lright) := ⟨rfl, rfl, rfl, by decide +kernel, rfl, by decide +kernel, by decide +kernel⟩
abbrev s_Lrefused : Stmt := top 31
abbrev N_Lrefused : List Str := ["_law_book", "_law_signs", "_law_node", "_law_thing", "_law_kinds", "e"]
theorem sc_Lrefused : FnScope N_Lrefused ["_law_book", "_law_signs", "_law_node", "_law_thing"] (defScope s_Lrefused) := ⟨rfl, rfl, rfl, by decide +kernel, rfl, by decide +kernel, by decide +kernel⟩
abbrev s_Lwalked : Stmt := top 32
abbrev N_Lwalked : List Str := ["_law_looks", "_law_decisions_here", "_law_at", "_law_odd", "_law_books", "_law_seen_here", "_law_rows", "_law_k", "_law_signs", "_law_node", "_law_bit", "_law_j", "_law_here"]
theorem sc_Lwalked : FnScope N_Lwalked ["_law_looks", "_law_decisions_here", "_law_at", "_law_odd"] (defScope s_Lwalked) := ⟨rfl, rfl, rfl, by decide +kernel, rfl, by decide +kernel, by decide +kernel⟩
abbrev s_Lbits : Stmt := top 33
abbrev N_Lbits : List Str := ["_law_script", "_law_most", "_law_bits_here", "_law_k", "_law_cell", "_law_picked"]
theorem sc_Lbits : FnScope N_Lbits ["_law_script", "_law_most"] (defScope s_Lbits) := ⟨rfl, rfl, rfl, by decide +kernel, rfl, by decide +kernel, by decide +kernel⟩
abbrev s_Llong : Stmt := top 34
abbrev N_Llong : List Str := ["_law_look_here", "_law_bits_here", "_law_book", "_law_state", "_law_bit"]
theorem sc_Llong : FnScope N_Llong ["_law_look_here", "_law_bits_here"] (defScope s_Llong) := ⟨rfl, rfl, rfl, by decide +kernel, rfl, by decide +kernel, by decide +kernel⟩
abbrev s_law : Stmt := top 35
abbrev N_law : List Str := ["_law_script", "_law_pick", "_law_few", "_law_some", "_law_cut", "_law_last", "_law_texts", "_law_looks", "_law_decisions_here", "_law_odd", "_law_cell"]
theorem sc_law : FnScope N_law ["_law_script"] (defScope s_law) := ⟨rfl, rfl, rfl, by decide +kernel, rfl, by decide +kernel, by decide +kernel⟩
def faA : List He.Fa := [.cls "Slot", .cls "Even", .noat "Even" "noughts", .noat "Even" "ones", .cls "Quick", .noat "Quick" "held", .cls "Run", .noat "Run" "last", .noat "Run" "length", .cls "Book", .noat "Book" "look", .noat "Book" "slots", .exm "NoBit" "ForetellError" true, .free "isinstance", .free "int", .free "bool", .int "ONE" 16777216, .free "len", .free "tuple", .int "NO_SIGN" 256, .free "range", .free "min", .free "max", .free "enumerate", .glo "is_whole", .glo "_law_places", .glo "is_bit", .glo "NoBit", .exc "NoBit", .glo "Even", .glo "Quick", .glo "Run", .mkr "Even", .mkr "Quick"]
def faB : List He.Fa := [.mkr "Run", .glo "checked_bit", .int "MOST_COUNTED" 255, .int "LEAST" 32768, .glo "context_of", .glo "slot_of", .meth "Even" "chance", .meth "Quick" "chance", .meth "Run" "chance", .meth "Even" "seen", .meth "Quick" "seen", .meth "Run" "seen", .free "list", .glo "_law_due", .glo "_law_context", .glo "_law_whole", .meth "Book" "chance", .free "ValueError", .glo "ForetellError", .glo "NoText", .meth "Book" "seen", .glo "Book", .glo "_law_seen", .mkr "Book", .glo "_law_right", .glo "_law_refused", .glo "_law_cell_at", .glo "_law_look", .glo "_law_decisions", .glo "_law_long", .glo "_law_bits", .glo "_law_walked", .glo "law"]
def fa : List He.Fa := faA ++ faB
def fnA : List He.DefD := [⟨("is_whole", none), "is_whole", "is_whole", defArgs s_is_whole, defBody s_is_whole, defScope s_is_whole, [], []⟩,
  ⟨("is_bit", none), "is_bit", "is_bit", defArgs s_is_bit, defBody s_is_bit, defScope s_is_bit, [], []⟩,
  ⟨("checked_bit", none), "checked_bit", "checked_bit", defArgs s_checked_bit, defBody s_checked_bit, defScope s_checked_bit, [], []⟩,
  ⟨("Even", some "__init__"), "__init__", "Even.__init__", defArgs s_Even_init, defBody s_Even_init, defScope s_Even_init, [], []⟩,
  ⟨("Even", some "chance"), "chance", "Even.chance", defArgs s_Even_chance, defBody s_Even_chance, defScope s_Even_chance, [], []⟩,
  ⟨("Even", some "seen"), "seen", "Even.seen", defArgs s_Even_seen, defBody s_Even_seen, defScope s_Even_seen, [], []⟩,
  ⟨("Quick", some "__init__"), "__init__", "Quick.__init__", defArgs s_Quick_init, defBody s_Quick_init, defScope s_Quick_init, [], []⟩,
  ⟨("Quick", some "chance"), "chance", "Quick.chance", defArgs s_Quick_chance, defBody s_Quick_chance, defScope s_Quick_chance, [], []⟩,
  ⟨("Quick", some "seen"), "seen", "Quick.seen", defArgs s_Quick_seen, defBody s_Quick_seen, defScope s_Quick_seen, [], []⟩,
  ⟨("Run", some "__init__"), "__init__", "Run.__init__", defArgs s_Run_init, defBody s_Run_init, defScope s_Run_init, [], []⟩,
  ⟨("Run", some "chance"), "chance", "Run.chance", defArgs s_Run_chance, defBody s_Run_chance, defScope s_Run_chance, [], []⟩,
  ⟨("Run", some "seen"), "seen", "Run.seen", defArgs s_Run_seen, defBody s_Run_seen, defScope s_Run_seen, [], []⟩,
  ⟨("slot_of", none), "slot_of", "slot_of", defArgs s_slot_of, defBody s_slot_of, defScope s_slot_of, [], []⟩,
  ⟨("context_of", none), "context_of", "context_of", defArgs s_context_of, defBody s_context_of, defScope s_context_of, [], []⟩,
  ⟨("Book", some "__init__"), "__init__", "Book.__init__", defArgs s_Book_init, defBody s_Book_init, defScope s_Book_init, [], []⟩,
  ⟨("Book", some "chance"), "chance", "Book.chance", defArgs s_Book_chance, defBody s_Book_chance, defScope s_Book_chance, [], []⟩]
def fnB : List He.DefD := [⟨("Book", some "seen"), "seen", "Book.seen", defArgs s_Book_seen, defBody s_Book_seen, defScope s_Book_seen, [], []⟩,
  ⟨("_law_cell_at", none), "_law_cell_at", "_law_cell_at", defArgs s_Lcell17, defBody s_Lcell17, defScope s_Lcell17, [], []⟩,
  ⟨("_law_whole", none), "_law_whole", "_law_whole", defArgs s_Lwhole, defBody s_Lwhole, defScope s_Lwhole, [], []⟩,
  ⟨("_law_places", none), "_law_places", "_law_places", defArgs s_Lplaces, defBody s_Lplaces, defScope s_Lplaces, [], []⟩,
  ⟨("_law_look", none), "_law_look", "_law_look", defArgs s_Llook, defBody s_Llook, defScope s_Llook, [], []⟩,
  ⟨("_law_seen", none), "_law_seen", "_law_seen", defArgs s_Lseen, defBody s_Lseen, defScope s_Lseen, [], []⟩,
  ⟨("_law_due", none), "_law_due", "_law_due", defArgs s_Ldue, defBody s_Ldue, defScope s_Ldue, [], []⟩,
  ⟨("_law_decisions", none), "_law_decisions", "_law_decisions", defArgs s_Ldecisions, defBody s_Ldecisions, defScope s_Ldecisions, [], []⟩,
  ⟨("_law_context", none), "_law_context", "_law_context", defArgs s_Lcontext, defBody s_Lcontext, defScope s_Lcontext, [], []⟩,
  ⟨("_law_right", none), "_law_right", "_law_right", defArgs s_Lright, defBody s_Lright, defScope s_Lright, [], []⟩,
  ⟨("_law_refused", none), "_law_refused", "_law_refused", defArgs s_Lrefused, defBody s_Lrefused, defScope s_Lrefused, [], []⟩,
  ⟨("_law_walked", none), "_law_walked", "_law_walked", defArgs s_Lwalked, defBody s_Lwalked, defScope s_Lwalked, [], []⟩,
  ⟨("_law_bits", none), "_law_bits", "_law_bits", defArgs s_Lbits, defBody s_Lbits, defScope s_Lbits, [], []⟩,
  ⟨("_law_long", none), "_law_long", "_law_long", defArgs s_Llong, defBody s_Llong, defScope s_Llong, [], []⟩,
  ⟨("law", none), "law", "law", defArgs s_law, defBody s_law, defScope s_law, [], []⟩]
def fn : List He.DefD := fnA ++ fnB
def xfA : List Xf := [.exc "NoBit", .kitT "NoBit" "ValueError" true]
def xfB : List Xf := [.kit "NoBit" "NoBit" true, .kit "NoBit" "NoText" false]
def xf : List Xf := xfA ++ xfB
class SaysC (K : PySem.W.Frag) : Prop where
  out : SaysX fa fn xf K
instance in_0 {K : PySem.W.Frag} [c : SaysC K] : HasCls K "Slot" := ⟨He.cls_ok (c.out.fact 0 rfl)⟩
instance in_1 {K : PySem.W.Frag} [c : SaysC K] : HasCls K "Even" := ⟨He.cls_ok (c.out.fact 1 rfl)⟩
instance in_2 {K : PySem.W.Frag} [c : SaysC K] : HasNo K "Even" "noughts" := ⟨He.noat_ok (c.out.fact 2 rfl)⟩
instance in_3 {K : PySem.W.Frag} [c : SaysC K] : HasNo K "Even" "ones" := ⟨He.noat_ok (c.out.fact 3 rfl)⟩
instance in_4 {K : PySem.W.Frag} [c : SaysC K] : HasCls K "Quick" := ⟨He.cls_ok (c.out.fact 4 rfl)⟩
instance in_5 {K : PySem.W.Frag} [c : SaysC K] : HasNo K "Quick" "held" := ⟨He.noat_ok (c.out.fact 5 rfl)⟩
instance in_6 {K : PySem.W.Frag} [c : SaysC K] : HasCls K "Run" := ⟨He.cls_ok (c.out.fact 6 rfl)⟩
instance in_7 {K : PySem.W.Frag} [c : SaysC K] : HasNo K "Run" "last" := ⟨He.noat_ok (c.out.fact 7 rfl)⟩
instance in_8 {K : PySem.W.Frag} [c : SaysC K] : HasNo K "Run" "length" := ⟨He.noat_ok (c.out.fact 8 rfl)⟩
instance in_9 {K : PySem.W.Frag} [c : SaysC K] : HasCls K "Book" := ⟨He.cls_ok (c.out.fact 9 rfl)⟩
instance in_10 {K : PySem.W.Frag} [c : SaysC K] : HasNo K "Book" "look" := ⟨He.noat_ok (c.out.fact 10 rfl)⟩
instance in_11 {K : PySem.W.Frag} [c : SaysC K] : HasNo K "Book" "slots" := ⟨He.noat_ok (c.out.fact 11 rfl)⟩
instance in_12 {K : PySem.W.Frag} [c : SaysC K] : HasExc K "NoBit" := hexc_ok (c.out.ext 0 rfl)
instance in_13 {K : PySem.W.Frag} [c : SaysC K] : HasExm K "NoBit" "ForetellError" true := hexm_ok (c.out.fact 12 rfl)
instance in_14 {K : PySem.W.Frag} [c : SaysC K] : HasKitT K "NoBit" "ValueError" true := kitT_ok (c.out.ext 1 rfl)
instance in_15 {K : PySem.W.Frag} [c : SaysC K] : HasKit K "NoBit" "NoBit" true := kit_ok (c.out.ext 2 rfl)
instance in_16 {K : PySem.W.Frag} [c : SaysC K] : HasKit K "NoBit" "NoText" false := kit_ok (c.out.ext 3 rfl)
def hk : PySem.W.Hook := hookX 6 fa fn xf
def ob (s : PySem.W.SharedT) : AlX := obsXG 6 fa fn xf (HandSHeadRun.getT s)
theorem ob_eq (s : PySem.W.SharedT) : ob s = hk.obs s.abs := obsXG_eq (HandSHeadRun.getT_eq s)
def loose : List Str := (["ForetellError", "NoText", "NoBit", "ONE", "LEAST", "is_whole", "is_bit", "checked_bit", "MOST_COUNTED", "Slot", "Even", "Quick", "Run", "slot_of", "NO_SIGN"] : List Str) ++ (["context_of", "Book", "_law_cell_at", "_law_whole", "_law_places", "_law_look", "_law_seen", "_law_due", "_law_decisions", "_law_context", "_law_right", "_law_refused", "_law_walked", "_law_bits", "_law_long"] : List Str)
theorem runA (w : World) : RunA W_.row (PySem.W.view W_.row.prog [35]) 6820 loose w := by
  intro os
  kernel_rfl
theorem runB (w : World) : RunF W_.row 6820 faA fnA xfA w := by
  intro os
  kernel_rfl
theorem runC (w : World) : RunF W_.row 6820 faB fnB xfB w := by
  intro os
  kernel_rfl
theorem run (w : World) : HandSHeadRun.RunEq W_.row (PySem.W.view W_.row.prog [35]) hk ob 6820 loose w := run_join (runA w) (runB w) (runC w)
end Fo
section
open PySem PySem.W PySem.Calls PyProof.Rows
theorem Fo.early (h : Fo.W_.row.wellSaid = true → Fo.W_.row.Holds) : PySem.Challenge.rw_foretell_k17_a_book.Holds := by
  w_on; o_law
  exact h (by assumption)
end
namespace Fo
open PySem PySem.Spec PyProof.Rows L2
local macro_rules
  | `(tactic| walk_at "rfl!") => `(tactic| exact rfl)
local macro_rules
  | `(tactic| walk_at "lk0") => `(tactic| first
    | with_reducible assumption
    | (with_reducible refine' lkF ?a ?b; (case a => with_reducible assumption); (case b => walk_at "sm")))
  | `(tactic| walk_at "ne") => `(tactic| first
    | with_reducible assumption
    | (with_reducible refine' Ne.symm ?a; (case a => with_reducible assumption))
    | (with_reducible refine' ne_of_noneF ?a ?b; (case a => with_reducible assumption); (case b => walk_at "lk0"))
    | (with_reducible refine' Ne.symm (ne_of_noneF ?a ?b); (case a => with_reducible assumption); (case b => walk_at "lk0")))
  | `(tactic| walk_at "nm") => `(tactic| first
    | with_reducible assumption
    | exact id
    | (with_reducible show ¬ (_ = _); walk_at "ne")
    | (with_reducible show ¬ (_ ∨ _); refine' not_or.mpr (And.intro ?a ?b); (case a => walk_at "nm"); (case b => walk_at "nm")))
  | `(tactic| walk_at "lk") => `(tactic| first
    | with_reducible assumption
    | with_reducible exact upd_same
    | (with_reducible refine' lkF ?a ?b; (case a => with_reducible assumption); (case b => walk_at "sm"))
    | (with_reducible refine' SameX.lk ?a ?b ?c; (case a => with_reducible assumption); (case b => walk_at "nm"); (case c => walk_at "lk"))
    | (with_reducible refine' lk_newF ?a ?b; (case a => with_reducible assumption); (case b => walk_at "lk"))
    | (with_reducible refine' lk_mut ?a ?b; (case a => walk_at "ne"); (case b => walk_at "lk")))
  | `(tactic| walk_at "sq") => `(tactic| first
    | with_reducible assumption
    | with_reducible exact sq_of upd_same
    | (with_reducible refine' sq_of ?a; (case a => with_reducible assumption))
    | (with_reducible refine' sqF ?a ?b; (case a => with_reducible assumption); (case b => walk_at "sm"))
    | (with_reducible refine' sqLF ?a ?b; (case a => with_reducible assumption); (case b => walk_at "sm"))
    | (with_reducible refine' SameX.seq ?a ?b ?c; (case a => with_reducible assumption); (case b => walk_at "nm"); (case c => walk_at "sq"))
    | (with_reducible refine' sq_newF ?a ?b; (case a => with_reducible assumption); (case b => walk_at "sq"))
    | (with_reducible refine' sq_of ?a; (case a => walk_at "lk")))
  | `(tactic| walk_at "tq") => `(tactic| first
    | with_reducible assumption
    | with_reducible exact stt_of upd_same
    | (with_reducible refine' stt_of ?a; (case a => with_reducible assumption))
    | (with_reducible refine' tqF ?a ?b; (case a => with_reducible assumption); (case b => walk_at "sm"))
    | (with_reducible refine' tqLF ?a ?b; (case a => with_reducible assumption); (case b => walk_at "sm"))
    | (with_reducible refine' SameX.tup ?a ?b ?c; (case a => with_reducible assumption); (case b => walk_at "nm"); (case c => walk_at "tq"))
    | (with_reducible refine' st_newF ?a ?b; (case a => with_reducible assumption); (case b => walk_at "tq"))
    | (with_reducible refine' stt_of ?a; (case a => walk_at "lk")))
  | `(tactic| walk_at "sm") => `(tactic| first
    | with_reducible assumption
    | with_reducible exact L2.Same.refl _
    | (with_reducible refine' same_newF ?a ?b; (case a => with_reducible assumption); (case b => walk_at "sm"))
    | (with_reducible refine' same_mutF ?a ?b; (case a => with_reducible assumption); (case b => walk_at "sm"))
    | (with_reducible refine' same_transF ?a ?b; (case a => with_reducible assumption); (case b => walk_at "sm")))
  | `(tactic| walk_at "pf") => `(tactic| first
    | exact putF_hit
    | exact putF_nil
    | exact putF_far (by decide) (by walk_at "pf"))
  | `(tactic| walk_at "ix") => `(tactic| first
    | with_reducible assumption
    | (simp only [at0, at1, at2, at3]; exact rfl))
  | `(tactic| walk_at "sz1") => `(tactic| first
    | decide
    | (simp only [List.length_cons, List.length_nil]; decide))
  | `(tactic| walk_at "sz") => `(tactic| first
    | with_reducible assumption
    | (refine Nat.le_trans (m := 1000000) ?_ (by decide); (try simp only [List.length_append, List.length_map, List.length_cons, List.length_nil, List.length_replicate, List.length_reverse, List.length_take, List.length_drop, List.length_set]); omega))
local macro_rules
  | `(tactic| walk_at "m64") => `(tactic| first
    | exact Or.inr ⟨by decide, by decide⟩
    | exact Or.inl ⟨by decide, by decide⟩
    | exact Or.inr ⟨by omega, by omega⟩
    | exact Or.inl ⟨by omega, by omega⟩)
local macro_rules
  | `(tactic| walk_at "go1") => `(tactic| first
    | ((with_reducible refine' g_var ?h ?_); (case h => exact rfl))
    | with_reducible refine g_c ?_
    | with_reducible refine g_op ?_
    | with_reducible refine g_cons ?_
    | with_reducible refine g_nil ?_
    | with_reducible refine g_cb ?_
    | with_reducible refine g_plus ?_
    | with_reducible refine g_minus ?_
    | ((with_reducible refine' g_rest ?h ?_); (case h => decide))
    | ((with_reducible refine' g_mul ?h ?_); (case h => walk_at "m64"))
    | with_reducible refine g_lt ?_
    | with_reducible refine g_le ?_
    | with_reducible refine g_gt ?_
    | with_reducible refine g_ge ?_
    | with_reducible refine g_same ?_
    | with_reducible refine g_diff ?_
    | with_reducible refine g_sameS ?_
    | with_reducible refine g_diffS ?_
    | with_reducible refine g_test ?_
    | with_reducible refine g_ebl ?_
    | with_reducible refine g_eint ?_
    | with_reducible refine g_tru ?_
    | with_reducible refine g_truB ?_
    | with_reducible refine g_seq ?_
    | with_reducible refine g_next ?_
    | with_reducible refine g_asg ?_
    | with_reducible refine g_asgT ?_
    | with_reducible refine g_gcons ?_
    | with_reducible refine g_gname ?_
    | with_reducible refine g_gnil ?_
    | with_reducible refine g_gsub ?_
    | ((with_reducible refine' g_gtup ?h ?i ?_); (case h => walk_at "tq"); (case i => exact rfl))
    | with_reducible refine g_p15 ?_
    | with_reducible refine g_p30 ?_
    | with_reducible refine g_sh15 ?_
    | with_reducible refine g_sh16 ?_
    | with_reducible refine g_sh23 ?_
    | with_reducible refine g_sh24 ?_
    | with_reducible refine g_sh40 ?_
    | with_reducible refine g_sh48 ?_
    | with_reducible refine g_p60 ?_
    | ((with_reducible refine' g_floor ?h ?_); (case h => exact ⟨by decide, by decide⟩))
    | ((with_reducible refine' g_asgn ?h ?_); (case h => repeat (first | exact SetR.zero | apply SetR.succ)))
    | with_reducible refine g_if ?_
    | with_reducible refine g_ret ?_
    | with_reducible refine g_retN ?_
    | with_reducible refine g_drop ?_
    | with_reducible refine g_and ?_
    | with_reducible refine g_or ?_
    | with_reducible refine g_not ?_
    | with_reducible refine g_andV ?_
    | with_reducible refine g_orV ?_
    | with_reducible refine g_notV ?_
    | with_reducible refine g_ifT ?_
    | with_reducible refine g_ifF ?_
    | with_reducible refine g_ifNT ?_
    | with_reducible refine g_ifNF ?_
    | with_reducible refine g_fun ?_
    | with_reducible refine g_new ?_
    | with_reducible refine g_on1 ?_
    | with_reducible refine g_on2 ?_
    | with_reducible refine g_on3 ?_
    | with_reducible refine g_on4 ?_
    | with_reducible refine g_on31 ?_
    | with_reducible refine g_on42 ?_
    | with_reducible refine g_on41 ?_
    | with_reducible refine g_bm ?_
    | with_reducible refine g_m1 ?_
    | with_reducible refine g_k1 ?_
    | with_reducible refine g_m2 ?_
    | with_reducible refine g_k2 ?_
    | with_reducible refine g_m3 ?_
    | with_reducible refine g_k3 ?_
    | with_reducible refine g_m4 ?_
    | with_reducible refine g_k4 ?_
    | with_reducible refine g_m5 ?_
    | with_reducible refine g_k5 ?_
    | with_reducible refine g_bm0 ?_
    | with_reducible refine g_fld ?_
    | with_reducible refine g_sto ?_
    | ((with_reducible refine' g_aug ?h ?_); (case h => exact rfl))
    | with_reducible refine g_ip ?_
    | with_reducible refine g_lst ?_
    | with_reducible refine g_tup ?_
    | ((with_reducible refine' g_lstK ?h ?_); (case h => walk_at "sz"))
    | ((with_reducible refine' g_tupK ?h ?_); (case h => walk_at "sz"))
    | with_reducible refine g_un ?_
    | with_reducible refine g_forL ?_
    | with_reducible refine g_forT ?_
    | with_reducible refine g_forR1 ?_
    | with_reducible refine g_forR2 ?_
    | with_reducible refine g_forE ?_
    | with_reducible refine g_forZ ?_
    | with_reducible refine g_lcZ ?_
    | with_reducible refine g_forR3 ?_
    | with_reducible refine g_lcR3 ?_
    | with_reducible refine g_mask1 ?_
    | with_reducible refine g_bitand ?_
    | with_reducible refine g_lcX ?_
    | with_reducible refine g_lcL ?_
    | with_reducible refine g_lcT ?_
    | with_reducible refine g_lcR1 ?_
    | with_reducible refine g_lcR2 ?_
    | with_reducible refine g_new0 ?_
    | with_reducible refine g_neg ?_
    | with_reducible refine g_sl ?_
    | with_reducible refine g_part ?_
    | with_reducible refine g_nopart ?_
    | with_reducible refine g_chain ?_
    | with_reducible refine g_rz ?_
    | with_reducible refine g_isno ?_
    | with_reducible refine g_notno ?_
    | with_reducible refine g_max2 ?_
    | with_reducible refine g_min2 ?_
    | with_reducible refine g_intI ?_
    | with_reducible refine g_intB ?_
    | with_reducible refine g_bits ?_
    | with_reducible refine g_B ?_
    | with_reducible refine g_dget ?_
    | with_reducible refine g_din ?_
    | with_reducible refine g_dnotin ?_
    | with_reducible refine g_mthd ?_
    | with_reducible refine g_fldaug ?_
    | with_reducible refine g_iadd ?_
    | with_reducible refine g_isub ?_
    | with_reducible refine g_whK ?_
    | ((with_reducible refine' g_fldA ?h ?i ?c ?o ?_); (case h => walk_at "lk"); (case i => exact rfl); (case c => infer_instance); (case o => infer_instance))
    | ((with_reducible refine' g_stoU ?i ?e ?c ?o ?_); (case i => walk_at "sz1"); (case e => walk_at "pf"); (case c => infer_instance); (case o => infer_instance))
    | ((with_reducible refine' g_stoA ?h ?i ?e ?c ?o ?_); (case h => walk_at "lk"); (case i => walk_at "sz1"); (case e => walk_at "pf"); (case c => infer_instance); (case o => infer_instance))
    | ((with_reducible refine' g_augA ?h ?i ?c ?o ?_); (case h => walk_at "lk"); (case i => exact rfl); (case c => infer_instance); (case o => infer_instance))
    | ((with_reducible refine' g_putU ?i ?e ?_); (case i => walk_at "sz1"); (case e => walk_at "pf"))
    | ((with_reducible refine' g_putA ?h ?i ?e ?_); (case h => walk_at "lk"); (case i => walk_at "sz1"); (case e => walk_at "pf"))
    | ((with_reducible refine' g_one ?h ?i ?_); (case h => walk_at "lk"); (case i => exact rfl))
    | ((with_reducible refine' g_ixL ?h ?i ?_); (case h => walk_at "sq"); (case i => walk_at "ix"))
    | ((with_reducible refine' g_ixT ?h ?i ?_); (case h => walk_at "tq"); (case i => walk_at "ix"))
    | ((with_reducible refine' g_tyL ?h ?_); (case h => walk_at "sq"))
    | with_reducible refine g_tyS ?_
    | ((with_reducible refine' g_lenL ?h ?_); (case h => walk_at "sq"))
    | ((with_reducible refine' g_lenT ?h ?_); (case h => walk_at "tq"))
    | ((with_reducible refine' g_listL ?h ?_); (case h => walk_at "sq"))
    | ((with_reducible refine' g_listT ?h ?_); (case h => walk_at "tq"))
    | ((with_reducible refine' g_tupleL ?h ?_); (case h => walk_at "sq"))
    | ((with_reducible refine' g_slL ?h ?_); (case h => walk_at "sq"))
    | ((with_reducible refine' g_append ?h ?i ?_); (case h => walk_at "lk"); (case i => walk_at "sz"))
    | ((with_reducible refine' g_reverse ?h ?_); (case h => walk_at "lk"))
    | ((with_reducible refine' g_clear ?h ?_); (case h => walk_at "lk"))
    | ((with_reducible refine' g_cat ?h ?i ?j ?_); (case h => walk_at "lk"); (case i => walk_at "lk"); (case j => walk_at "sz")))
local macro_rules
  | `(tactic| walk_at "go") => `(tactic| repeat walk_at "go1")
local macro_rules
  | `(tactic| walk_at "gs1") => `(tactic| first
    | ((with_reducible refine' g_slTo ?h ?_); (case h => walk_at "sq"))
    | ((with_reducible refine' g_slFrom ?h ?_); (case h => walk_at "sq"))
    | ((with_reducible refine' g_slBut ?h ?_); (case h => walk_at "sq"))
    | ((with_reducible refine' g_slMid ?h ?_); (case h => walk_at "sq"))
    | ((with_reducible refine' g_catM ?h ?i ?j ?_); (case h => walk_at "lk"); (case i => walk_at "lk"); (case j => walk_at "sz"))
    | with_reducible refine g_lst1 ?_
    | with_reducible refine g_lst2 ?_
    | ((with_reducible refine' g_rep1 ?h ?i ?_); (case h => walk_at "lk"); (case i => omega))
    | ((with_reducible refine' g_appI ?h ?i ?_); (case h => walk_at "lk"); (case i => walk_at "sz"))
    | walk_at "go1"
    | (with_reducible refine fun (p : Addr) (np : (_ : Hp) p = none) => ?_)
    | ((with_reducible refine' difY ?h ?_); (case h => first | rfl | omega))
    | ((with_reducible refine' difX ?h ?_); (case h => omega))
    | ((with_reducible refine' difNY ?h ?_); (case h => first | rfl | omega))
    | ((with_reducible refine' difNX ?h ?_); (case h => omega)))
local macro_rules
  | `(tactic| walk_at "gn") => `(tactic| repeat walk_at "gs1")
/-! numbers: a cell of the script; what is whole, a bit, a chance, a sign -/
def cell (ns : List Int) (k : Nat) : Int := ns.getD k 0
theorem ix_ints {ns : List Int} {k : Nat} (h : k < ns.length) : atI (ns.map V.int) (k : Int) = some (.int (ns.getD k 0)) := by
  refine atI_nat ?_
  rw [List.getElem?_map, List.getElem?_eq_getElem h, List.getD_eq_getElem?_getD, List.getElem?_eq_getElem h]
  rfl
def F_Lcell_at (K : PySem.W.Frag) : V → V → Hp → VK → XK → Prop := fun x y H Q _ => ∃ (a : Addr) (ns : List Int) (k : Nat), x = .ref a ∧ y = .int k ∧ SqL K H a (ns.map V.int) ∧ Q (.int (cell ns k)) H
abbrev sp_Lcell_at (K : PySem.W.Frag) : Sp := on2 (F_Lcell_at K)
/-- an int, and no truth -/
def wholeV : V → Bool
  | .int _ => true
  | _ => false
def TyW (K : PySem.W.Frag) (H : Hp) (x : V) : Prop := (∃ i, x = .int i) ∨ (∃ b, x = .bl b) ∨ (wholeV x = false ∧ ∃ tn, TyX K H x (.type tn) ∧ kitB tn "int" = some false)
def F_Lwhole (K : PySem.W.Frag) : V → Hp → VK → XK → Prop := fun x H Q _ => TyW K H x ∧ Q (.bl (wholeV x)) H
abbrev sp_Lwhole (K : PySem.W.Frag) : Sp := on1 (F_Lwhole K)
def t_Lwhole (K : PySem.W.Frag) (E : XK) : TS :=
  tRet (tAndV (tCB (rIsi2 K) (tCons (tVar 0) (tCons (tC (.ty "int")) (tNil)))) (tNotV (tCB (rIsi2 K) (tCons (tVar 0) (tCons (tC (.ty "bool")) (tNil))))))
theorem pure_Lwhole (K : PySem.W.Frag) {x : V} {H : Hp} {Q : VK} {E : XK} (h : F_Lwhole K x H Q E) : t_Lwhole K E ⟨fun _ H' => Q .non H', Q, fun _ _ => False, fun _ _ => False⟩ [some x] H := by
  refine Bx.out ?_
  simp (disch := with_unfolding_all
  obtain ⟨ty, q⟩ := h
  unfold t_Lwhole
  walk_at "go"
  rcases ty with ⟨i, rfl⟩ | ⟨b, rfl⟩ | ⟨e, tn, ty, hk⟩
  · refine g_isi (s := "") (tn := "int") (.base (.int i)) (b := true) (by decide +kernel) ?_
    walk_at "go"
    refine g_isi (s := "") (tn := "int") (.base (.int i)) (b := false) (by decide +kernel) ?_
    walk_at "go"
    exact q
  · refine g_isi (s := "") (tn := "bool") (.base (.bl b)) (b := true) (by decide +kernel) ?_
    walk_at "go"
    refine g_isi (s := "") (tn := "bool") (.base (.bl b)) (b := true) (by decide +kernel) ?_
    walk_at "go"
    exact q
  · refine g_isi (s := "") ty hk ?_
    walk_at "go"
    rw [e] at q
    exact q
  ) only [↓Bx.eq]
abbrev F_is_whole (K : PySem.W.Frag) : V → Hp → VK → XK → Prop := F_Lwhole K
abbrev sp_is_whole (K : PySem.W.Frag) : Sp := on1 (F_is_whole K)
def t_is_whole (K : PySem.W.Frag) (E : XK) : TS :=
  tRet (tAndV (tCB (rIsi2 K) (tCons (tVar 0) (tCons (tC (.ty "int")) (tNil)))) (tNotV (tCB (rIsi2 K) (tCons (tVar 0) (tCons (tC (.ty "bool")) (tNil))))))
theorem pure_is_whole (K : PySem.W.Frag) {x : V} {H : Hp} {Q : VK} {E : XK} (h : F_is_whole K x H Q E) : t_is_whole K E ⟨fun _ H' => Q .non H', Q, fun _ _ => False, fun _ _ => False⟩ [some x] H := by
  refine Bx.out ?_
  simp (disch := with_unfolding_all
  obtain ⟨ty, q⟩ := h
  unfold t_is_whole
  walk_at "go"
  rcases ty with ⟨i, rfl⟩ | ⟨b, rfl⟩ | ⟨e, tn, ty, hk⟩
  · refine g_isi (s := "") (tn := "int") (.base (.int i)) (b := true) (by decide +kernel) ?_
    walk_at "go"
    refine g_isi (s := "") (tn := "int") (.base (.int i)) (b := false) (by decide +kernel) ?_
    walk_at "go"
    exact q
  · refine g_isi (s := "") (tn := "bool") (.base (.bl b)) (b := true) (by decide +kernel) ?_
    walk_at "go"
    refine g_isi (s := "") (tn := "bool") (.base (.bl b)) (b := true) (by decide +kernel) ?_
    walk_at "go"
    exact q
  · refine g_isi (s := "") ty hk ?_
    walk_at "go"
    rw [e] at q
    exact q
  ) only [↓Bx.eq]
/-- from a to b -/
def btw (a b : Int) : V → Bool
  | .int i => decide (a ≤ i) && decide (i ≤ b)
  | _ => false
theorem TyW.cases {K : PySem.W.Frag} {H : Hp} {x : V} (h : TyW K H x) : (∃ i, x = .int i) ∨ (wholeV x = false ∧ ∀ a b, btw a b x = false) := by
  rcases h with h | ⟨b, rfl⟩ | ⟨e, _⟩
  · exact .inl h
  · exact .inr ⟨rfl, fun _ _ => rfl⟩
  · refine .inr ⟨e, fun a b => ?_⟩
    cases x with
    | int i => cases e
    | _ => rfl
theorem TyW.int {K : PySem.W.Frag} {H : Hp} {i : Int} : TyW K H (.int i) := .inl ⟨i, rfl⟩
theorem TyW.same {K : PySem.W.Frag} {H H1 : Hp} {x : V} (s : ∀ tn, TyX K H x (.type tn) → TyX K H1 x (.type tn)) (h : TyW K H x) : TyW K H1 x := by
  rcases h with h | h | ⟨e, tn, t, k⟩
  · exact .inl h
  · exact .inr (.inl h)
  · exact .inr (.inr ⟨e, tn, s tn t, k⟩)
theorem btw_int {a b : Int} {x : V} (h : btw a b x = true) : ∃ i, x = .int i ∧ a ≤ i ∧ i ≤ b := by
  cases x with
  | int i =>
    rw [btw, Bool.and_eq_true, decide_eq_true_iff, decide_eq_true_iff] at h
    exact ⟨i, rfl, h⟩
  | _ => cases h
theorem tyx_same {K : PySem.W.Frag} {H H1 : Hp} {x : V} {t : Value} (s : Same H H1) (h : TyX K H x t) : TyX K H1 x t := by
  cases h with
  | base h =>
    refine .base ?_
    cases h with
    | non => exact .non
    | bl x => exact .bl x
    | int i => exact .int i
    | str x => exact .str x
    | flt x => exact .flt x
    | lst e => exact .lst (s _ _ e)
    | frz e => exact .frz (s _ _ e)
    | tup e => exact .tup (s _ _ e)
    | dK e => exact .dK (s _ _ e)
    | dT e => exact .dT (s _ _ e)
    | ins e c a b d m => exact .ins (s _ _ e) c a b d m
  | byt b => exact .byt b
  | set e => exact .set (s _ _ e)
  | kList e c => exact .kList e c
  | kTuple e c => exact .kTuple e c
  | kDict e c => exact .kDict e c
  | fTuple e => exact .fTuple (s _ _ e)
  | fDict e => exact .fDict (s _ _ e)
theorem tyw_same {K : PySem.W.Frag} {H H1 : Hp} {x : V} (s : Same H H1) (h : TyW K H x) : TyW K H1 x := h.same fun _ => tyx_same s
theorem ifB {A B : Prop} {b : Bool} (h1 : b = true → A) (h2 : b = false → B) : if b = true then A else B := difB h1 h2
def F_btw (K : PySem.W.Frag) (a b : Int) : V → Hp → VK → XK → Prop := fun x H Q _ => TyW K H x ∧ Q (.bl (btw a b x)) H
abbrev sp_is_bit (K : PySem.W.Frag) : Sp := on1 (F_btw K 0 1)
abbrev sp_is_chance (K : PySem.W.Frag) : Sp := on1 (F_btw K 32768 16744448)
def t_is_bit (K : PySem.W.Frag) (E : XK) : TS :=
  tRet (tAndV (tFun (sp_is_whole K) [] (fun _ => E) (tCons (tVar 0) (tNil))) (tChain (rLe) (rLe) (tC (.int 0)) (tVar 0) (tC (.int 1))))
theorem pure_is_bit (K : PySem.W.Frag) {x : V} {H : Hp} {Q : VK} {E : XK} (h : F_btw K 0 1 x H Q E) : t_is_bit K E ⟨fun _ H' => Q .non H', Q, fun _ _ => False, fun _ _ => False⟩ [some x] H := by
  refine Bx.out ?_
  simp (disch := with_unfolding_all
  obtain ⟨ty, q⟩ := h
  unfold t_is_bit
  walk_at "go"
  refine ⟨ty, ?_⟩
  rcases ty.cases with ⟨i, rfl⟩ | ⟨e1, e2⟩
  · walk_at "go"
    refine g_ifT ?_
    walk_at "go"
    refine dif (fun h => ?_) fun h => ?_
    · walk_at "go"
      rwa [btw, decide_eq_true h, Bool.true_and] at q
    · rwa [btw, decide_eq_false h, Bool.false_and] at q
  · rw [e1]
    rw [e2] at q
    walk_at "go"
    exact q
  ) only [↓Bx.eq]
abbrev sp_is_sign (K : PySem.W.Frag) : Sp := on1 (F_btw K 0 255)
/-- what a check hands on, what it refuses -/
def F_chk (K : PySem.W.Frag) (a b : Int) (C : Str) : V → Hp → VK → XK → Prop := fun x H Q E => TyW K H x ∧ (btw a b x = true → Q x H) ∧ (btw a b x = false → E (.ref (He.ga K C)) none H)
abbrev sp_checked_bit (K : PySem.W.Frag) : Sp := on1 (F_chk K 0 1 "NoBit")
abbrev sp_checked_chance (K : PySem.W.Frag) : Sp := on1 (F_chk K 32768 16744448 "NoChance")
theorem chk_int {K : PySem.W.Frag} {a b i : Int} {C : Str} {H : Hp} {Q : VK} {E : XK} (h : a ≤ i ∧ i ≤ b) (q : Q (.int i) H) : F_chk K a b C (.int i) H Q E :=
  ⟨.int, fun _ => q, fun e => by rw [btw, decide_eq_true h.1, decide_eq_true h.2] at e; cases e⟩
def t_checked_bit (K : PySem.W.Frag) (E : XK) : TS :=
  tSeq (tIfS (tNot (tTru K (tFun (sp_is_bit K) [] (fun _ => E) (tCons (tVar 0) (tNil))))) (tRz (fun cls d _ H => E cls d H) (He.ga K "NoBit")) (tNext))
  (tRet (tVar 0))
theorem pure_checked_bit (K : PySem.W.Frag) {x : V} {H : Hp} {Q : VK} {E : XK} (h : F_chk K 0 1 "NoBit" x H Q E) : t_checked_bit K E ⟨fun _ H' => Q .non H', Q, fun _ _ => False, fun _ _ => False⟩ [some x] H := by
  refine Bx.out ?_
  simp (disch := with_unfolding_all
  obtain ⟨ty, q, r⟩ := h
  unfold t_checked_bit
  walk_at "go"
  refine ⟨ty, ?_⟩
  walk_at "go"
  refine difNB (fun h => ?_) fun h => ?_
  · walk_at "go"
    exact r h
  · walk_at "go"
    exact q h
  ) only [↓Bx.eq]
def gave (c b : Int) : Int := if b = 1 then c else 16777216 - c
def F_gives (K : PySem.W.Frag) : V → V → Hp → VK → XK → Prop := fun x y H Q E => TyW K H x ∧ TyW K H y ∧ (btw 32768 16744448 x = false → E (.ref (He.ga K "NoChance")) none H) ∧ (btw 32768 16744448 x = true → btw 0 1 y = false → E (.ref (He.ga K "NoBit")) none H) ∧
  (∀ c b : Int, x = .int c → y = .int b → 32768 ≤ c → c ≤ 16744448 → 0 ≤ b → b ≤ 1 → Q (.int (gave c b)) H)
abbrev sp_gives (K : PySem.W.Frag) : Sp := on2 (F_gives K)
theorem gives_of {K : PySem.W.Frag} {H : Hp} {Q : VK} {E : XK} {c b : Int} (hc : 32768 ≤ c ∧ c ≤ 16744448) (hb : 0 ≤ b ∧ b ≤ 1) (q : Q (.int (gave c b)) H) : F_gives K (.int c) (.int b) H Q E := by
  have bt : ∀ {u v i : Int}, u ≤ i ∧ i ≤ v → btw u v (.int i) = true := fun h => by rw [btw, decide_eq_true h.1, decide_eq_true h.2]; rfl
  refine ⟨.int, .int, fun k => ?_, fun _ k => ?_, fun c' b' e1 e2 _ _ _ _ => ?_⟩
  · rw [bt hc] at k; cases k
  · rw [bt hb] at k; cases k
  · cases e1
    cases e2
    exact q
/-! a step: a chance, a bit, of a cell -/
def stepC (n : Int) : Int :=
  let m := n % 1000000000000000
  if m / 2 % 7 < 3 then (if m / 2 % 7 = 0 then 32768 else if m / 2 % 7 = 1 then 16744448 else 8388608) else 32768 + ((m * m + 5 * m + 11) * 48271 % 2147483647) % 16711681
def stepB (n : Int) : Int := n % 1000000000000000 % 2
theorem stepC_ok (n : Int) : 32768 ≤ stepC n ∧ stepC n ≤ 16744448 := by
  unfold stepC
  simp only []
  split
  · split
    · decide
    · split <;> decide
  · omega
theorem stepB_ok (n : Int) : 0 ≤ stepB n ∧ stepB n ≤ 1 := by unfold stepB; omega
def F_Lstep (K : PySem.W.Frag) : V → Hp → VK → XK → Prop := fun x H Q _ => ∃ n : Int, x = .int n ∧ ∀ p H', H p = none → Same H H' → H' p = some (.tup [.int (stepC n), .int (stepB n)]) → Q (.ref p) H'
abbrev sp_Lstep (K : PySem.W.Frag) : Sp := on1 (F_Lstep K)/-! contexts of looks -/
/-- a look's places -/
structure Plc (ps : List Int) : Prop where
  len : ps.length ≤ 4
  all : ∀ z ∈ ps, 1 ≤ z ∧ z ≤ 8
  up : ps.Pairwise (· < ·)
/-! contexts -/
def ctxAt (ns : List Int) (z : Int) : Int := if z ≤ (ns.length : Int) then ns.getD (ns.length - z.toNat) 0 else 256
def ctx (ps ns : List Int) (node : Int) : List Int := ps.map (ctxAt ns) ++ [node]
theorem ix_far {ns : List Int} {z : Int} (h : 1 ≤ z) (h2 : z ≤ (ns.length : Int)) : atI (ns.map V.int) ((ns.length : Int) - z) = some (.int (ctxAt ns z)) := by
  have e : (ns.length : Int) - z = ((ns.length - z.toNat : Nat) : Int) := by omega
  rw [e, ix_ints (by omega)]
  unfold ctxAt
  rw [if_pos h2]
theorem ix_back {ns : List Int} {z : Int} (h : 1 ≤ z) (h2 : z ≤ (ns.length : Int)) : atI (ns.map V.int) (-z) = some (.int (ctxAt ns z)) := by
  have e := ix_far h h2
  unfold atI at e ⊢
  have k : ixN (ns.map V.int).length (-z) = ixN (ns.map V.int).length ((ns.length : Int) - z) := by
    rw [List.length_map]
    unfold ixN
    rw [if_neg (by omega), if_pos (by omega), if_pos (by omega), if_pos (by omega)]
    congr 2
    omega
  rw [k]
  exact e
/-- a look as it stands: its kind, its places -/
def LookAt (K : PySem.W.Frag) (H : Hp) (a : Addr) (kind : Str) (ps : List Int) : Prop := ∃ b, SqT K H a [.str kind, .ref b] ∧ SqT K H b (ps.map V.int) ∧ Plc ps
theorem LookAt.same {K : PySem.W.Frag} {H H1 : Hp} {a : Addr} {kind : Str} {ps : List Int} (s : Same H H1) (h : LookAt K H a kind ps) : LookAt K H1 a kind ps := by
  obtain ⟨b, h1, h2, p⟩ := h
  exact ⟨b, Fo.Same.tup s h1, Fo.Same.tup s h2, p⟩
def F_context_of (K : PySem.W.Frag) : V → V → V → Hp → VK → XK → Prop := fun x y z H Q _ => ∃ (a c : Addr) (kind : Str) (ps ns : List Int) (node : Int), x = .ref a ∧ y = .ref c ∧ z = .int node ∧ LookAt K H a kind ps ∧ SqL K H c (ns.map V.int) ∧
  ∀ p H', H p = none → Same H H' → H' p = some (.tup ((ctx ps ns node).map V.int)) → Q (.ref p) H'
abbrev sp_context_of (K : PySem.W.Frag) : Sp := on3 (F_context_of K)
theorem take_snoc {α : Type} {l : List α} {i : Nat} {x : α} (h : l[i]? = some x) : l.take (i + 1) = l.take i ++ [x] := by
  rw [List.take_add_one, h]
  rfl
def t_context_of (K : PySem.W.Frag) (E : XK) : TS :=
  tSeq (tAsg (tLst (tNil)) (gName 3))
  (tSeq (tFor (iTup K (tOp (rIx K) (tVar 0) (tC (.int 1)))) (gName 4) (tIfS (tTest (tOp (rLe) (tVar 4) (tCB (rLength K) (tCons (tVar 1) (tNil))))) (tDrop (tBM K "list" (rAppend) (tVar 3) (tCons (tOp (rIx K) (tVar 1) (tOp (rMinus) (tCB (rLength K) (tCons (tVar 1) (tNil))) (tVar 4))) (tNil)))) (tDrop (tBM K "list" (rAppend) (tVar 3) (tCons (tC (.int 256)) (tNil))))))
  (tRet (tCB (rTupleOf K) (tCons (tOp (rPlus K) (tVar 3) (tLst (tCons (tVar 2) (tNil)))) (tNil)))))
theorem pure_context_of (K : PySem.W.Frag) {x y z : V} {H : Hp} {Q : VK} {E : XK} (h : F_context_of K x y z H Q E) : t_context_of K E ⟨fun _ H' => Q .non H', Q, fun _ _ => False, fun _ _ => False⟩ [some x, some y, some z, none, none] H := by
  refine Bx.out ?_
  simp (disch := with_unfolding_all
  obtain ⟨a, c, kind, ps, ns, node, rfl, rfl, rfl, ⟨b, hl, hb, P⟩, hn, q⟩ := h
  unfold t_context_of
  walk_at "go"
  intro l nl
  walk_at "go"
  have s0 := same_new (u := .lst []) (Same.refl H) nl
  refine for_TI (st_new hb nl) (fun i σ H1 => ∃ v, σ = [some (.ref a), some (.ref c), some (.int node), some (.ref l), v] ∧ Same H H1 ∧ H1 l = some (.lst (((ps.take i).map (ctxAt ns)).map V.int))) ?_ ?_ ?_ ?_
  · exact ⟨_, rfl, s0, upd_same⟩
  · rintro i σ H1 ⟨v, rfl, s, e⟩
    exact Fo.Same.tup s hb
  · rintro i z σ H1 hz ⟨v, rfl, s, e⟩
    have hi : i < ps.length := (List.getElem?_eq_some_iff.mp hz).1
    have pl := P.len
    obtain ⟨z1, z8⟩ := P.all z (List.mem_of_getElem? hz)
    have nxt : ∀ w, w = ctxAt ns z → (((ps.take i).map (ctxAt ns)).map V.int ++ [V.int w]) = ((ps.take (i + 1)).map (ctxAt ns)).map V.int := fun w hw => by
      rw [take_snoc hz, hw, List.map_append, List.map_append]
      rfl
    walk_at "go"
    rw [List.length_map]
    refine dif (fun h1 => ?_) (fun h1 => ?_)
    · walk_at "go"
      rw [List.length_map]
      refine g_ixL (s.seq hn) (ix_far z1 h1) ?_
      walk_at "go"
      exact ⟨_, rfl, same_mut s nl, by rw [upd_same, nxt _ rfl]⟩
    · walk_at "go"
      exact ⟨_, rfl, same_mut s nl, by rw [upd_same, nxt]; unfold ctxAt; rw [if_neg h1]⟩
  · rintro σ H1 ⟨v, rfl, s, e⟩
    rw [List.take_length] at e
    have pl := P.len
    walk_at "go"
    intro m nm
    walk_at "go"
    intro r nr
    walk_at "go"
    intro p np
    have s2 : Same H (upd (upd H1 m (HO.lst [V.int node])) r (HO.lst (List.map V.int (List.map (ctxAt ns) ps) ++ [V.int node]))) := by walk_at "sm"
    exact q p _ (s2.free np) (by walk_at "sm") (by rw [upd_same]; unfold ctx; rw [List.map_append]; rfl)
  ) only [↓Bx.eq]
/-! looks: what is one, what are some -/
def kindOk (z : Str) : Bool := inV (.str z) [.str "even", .str "quick", .str "run"]
def rising : Int → List V → Bool
  | _, [] => true
  | last, v :: vs => btw (last + 1) 8 v && (match v with | .int i => rising i vs | _ => false)
inductive PlT (K : PySem.W.Frag) (H : Hp) : V → Bool → Prop
  | tup {a : Addr} {xs : List V} (e : H a = some (.tup xs)) (l : xs.length ≤ 1000000) (t : ∀ v ∈ xs, TyW K H v) : PlT K H (.ref a) (decide (xs.length ≤ 4) && rising 0 xs)
  | other {x : V} {tn : String} (t : TyX K H x (.type tn)) (k : kitB tn "tuple" = some false) : PlT K H x false
inductive LkT (K : PySem.W.Frag) (H : Hp) : V → Bool → Prop
  | pair {a : Addr} {z : Str} {p : V} {b : Bool} (e : H a = some (.tup [.str z, p])) (h : PlT K H p b) : LkT K H (.ref a) (kindOk z && b)
  | kind {a : Addr} {z : Str} {p : V} (e : H a = some (.tup [.str z, p])) (h : kindOk z = false) : LkT K H (.ref a) false
  | nostr {a : Addr} {x p : V} {tn : String} (e : H a = some (.tup [x, p])) (t : TyX K H x (.type tn)) (k : kitB tn "str" = some false) : LkT K H (.ref a) false
  | len {a : Addr} {xs : List V} (e : H a = some (.tup xs)) (l : xs.length ≠ 2) : LkT K H (.ref a) false
  | other {x : V} {tn : String} (t : TyX K H x (.type tn)) (k : kitB tn "tuple" = some false) : LkT K H x false
/-- whether x are looks -/
inductive LsT (K : PySem.W.Frag) (H : Hp) : V → Bool → Prop
  | lst {a : Addr} {xs : List V} {bs : List Bool} (e : H a = some (.lst xs)) (l : xs.length ≤ 1000000) (bl : bs.length = xs.length) (t : ∀ (i : Nat) v b, xs[i]? = some v → bs[i]? = some b → LkT K H v b) : LsT K H (.ref a) (decide (1 ≤ xs.length) && (decide (xs.length ≤ 6) && bs.all id))
  | other {x : V} {tn : String} (t : TyX K H x (.type tn)) (k : kitB tn "list" = some false) : LsT K H x false
theorem PlT.same {K : PySem.W.Frag} {H H1 : Hp} {x : V} {b : Bool} (h : PlT K H x b) (s : Same H H1) : PlT K H1 x b := by
  cases h with
  | tup e l t => exact .tup (s _ _ e) l fun v hv => tyw_same s (t v hv)
  | other t k => exact .other (tyx_same s t) k
theorem LkT.same {K : PySem.W.Frag} {H H1 : Hp} {x : V} {b : Bool} (h : LkT K H x b) (s : Same H H1) : LkT K H1 x b := by
  cases h with
  | pair e h => exact .pair (s _ _ e) (h.same s)
  | kind e h => exact .kind (s _ _ e) h
  | nostr e t k => exact .nostr (s _ _ e) (tyx_same s t) k
  | len e l => exact .len (s _ _ e) l
  | other t k => exact .other (tyx_same s t) k
theorem LsT.same {K : PySem.W.Frag} {H H1 : Hp} {x : V} {b : Bool} (h : LsT K H x b) (s : Same H H1) : LsT K H1 x b := by
  cases h with
  | lst e l bl t => exact .lst (s _ _ e) l bl fun i v b hv hb => (t i v b hv hb).same s
  | other t k => exact .other (tyx_same s t) k
def F_are_places (K : PySem.W.Frag) : V → Hp → VK → XK → Prop := fun x H Q _ => ∃ b : Bool, PlT K H x b ∧ Q (.bl b) H
abbrev sp_are_places (K : PySem.W.Frag) : Sp := on1 (F_are_places K)
section
variable (K : PySem.W.Frag) [HasTup K "KINDS" [.str "even", .str "quick", .str "run"]]
theorem g_kinds {z : Str} {H : Hp} {Q : VK} (q : Q (.bl (kindOk z)) H) : rAmong K (.str z) (.ref (He.ga K "KINDS")) H Q :=
  .inl ⟨_, _, rfl, .inr (HasTup.h H), rfl, rfl, q⟩
def F_is_look (K : PySem.W.Frag) : V → Hp → VK → XK → Prop := fun x H Q _ => ∃ b : Bool, LkT K H x b ∧ Q (.bl b) H
abbrev sp_is_look (K : PySem.W.Frag) : Sp := on1 (F_is_look K)
def F_checked_looks (K : PySem.W.Frag) : V → Hp → VK → XK → Prop := fun x H Q E => ∃ b : Bool, LsT K H x b ∧ (b = false → ∀ H', Same H H' → E (.ref (He.ga K "NoLooks")) none H') ∧
  (b = true → ∀ a xs, x = .ref a → H a = some (.lst xs) → 1 ≤ xs.length → xs.length ≤ 6 → ∀ l H', H l = none → Same H H' → H' l = some (.lst xs) → Q (.ref l) H')
abbrev sp_checked_looks (K : PySem.W.Frag) : Sp := on1 (F_checked_looks K)
end
/-- a look as it stands -/
abbrev Lk := Str × List Int
structure LkOk (k : Lk) : Prop where
  kind : k.1 = "even" ∨ k.1 = "quick" ∨ k.1 = "run"
  plc : Plc k.2
def LookH (H : Hp) (a : Addr) (k : Lk) : Prop := ∃ b, H a = some (.tup [.str k.1, .ref b]) ∧ H b = some (.tup (k.2.map V.int))
theorem LookH.same {H H1 : Hp} {a : Addr} {k : Lk} (h : LookH H a k) (s : Same H H1) : LookH H1 a k := by
  obtain ⟨b, h1, h2⟩ := h
  exact ⟨b, s _ _ h1, s _ _ h2⟩
theorem LookH.at_ {K : PySem.W.Frag} {H : Hp} {a : Addr} {k : Lk} (h : LookH H a k) (ok : LkOk k) : LookAt K H a k.1 k.2 := by
  obtain ⟨b, h1, h2⟩ := h
  exact ⟨b, stt_of h1, stt_of h2, ok.plc⟩
theorem rising_ok : ∀ (ps : List Int) (last : Int), (∀ z ∈ ps, last < z ∧ z ≤ 8) → ps.Pairwise (· < ·) → rising last (ps.map V.int) = true
  | [], _, _, _ => rfl
  | z :: ps, last, h, p => by
    have hz := h z List.mem_cons_self
    rw [List.pairwise_cons] at p
    show (btw (last + 1) 8 (.int z) && rising z (ps.map V.int)) = true
    rw [rising_ok ps z (fun y hy => ⟨p.1 y hy, (h y (List.mem_cons_of_mem _ hy)).2⟩) p.2, btw, decide_eq_true (by omega), decide_eq_true (by omega)]
    rfl
theorem LookH.yes {K : PySem.W.Frag} {H : Hp} {a : Addr} {k : Lk} (h : LookH H a k) (ok : LkOk k) : LkT K H (.ref a) true := by
  obtain ⟨b, h1, h2⟩ := h
  have pl := ok.plc.len
  have e := LkT.pair (K := K) h1 (PlT.tup h2 (by rw [List.length_map]; omega) fun v hv => by obtain ⟨z, _, rfl⟩ := List.mem_map.mp hv; exact .int)
  rw [decide_eq_true (by rw [List.length_map]; omega), rising_ok k.2 0 (fun z hz => by have := ok.plc.all z hz; omega) ok.plc.up] at e
  have kk : kindOk k.1 = true := by rcases ok.kind with z | z | z <;> rw [z] <;> decide +kernel
  rw [kk] at e
  exact e
/-- a list of looks -/
structure LooksH (H : Hp) (l : Addr) (as : List Addr) (ks : List Lk) : Prop where
  lst : H l = some (.lst (as.map V.ref))
  len : as.length = ks.length
  at_ : ∀ (i : Nat) a k, as[i]? = some a → ks[i]? = some k → LookH H a k
structure LksOk (ks : List Lk) : Prop where
  l1 : 1 ≤ ks.length
  l6 : ks.length ≤ 6
  all : ∀ k ∈ ks, LkOk k
theorem LooksH.same {H H1 : Hp} {l : Addr} {as : List Addr} {ks : List Lk} (h : LooksH H l as ks) (s : Same H H1) : LooksH H1 l as ks := ⟨s _ _ h.lst, h.len, fun i a k ha hk => (h.at_ i a k ha hk).same s⟩
theorem LooksH.yes {K : PySem.W.Frag} {H : Hp} {l : Addr} {as : List Addr} {ks : List Lk} (h : LooksH H l as ks) (ok : LksOk ks) : LsT K H (.ref l) true := by
  have l1 := ok.l1
  have l6 := ok.l6
  have hl := h.len
  have e := LsT.lst (K := K) (bs := as.map fun _ => true) h.lst (by rw [List.length_map]; omega) (by rw [List.length_map, List.length_map]) fun i v b hv hb => by
    obtain ⟨a, ha, rfl⟩ := map_at hv
    rw [List.getElem?_map, ha] at hb
    cases hb
    have hi := (List.getElem?_eq_some_iff.mp ha).1
    have hk : ks[i]? = some (ks[i]'(by omega)) := List.getElem?_eq_getElem (by omega)
    exact (h.at_ i a _ ha hk).yes (ok.all _ (List.mem_of_getElem? hk))
  rw [decide_eq_true (by rw [List.length_map]; omega), decide_eq_true (by rw [List.length_map]; omega)] at e
  have al : (as.map fun _ => true).all id = true := by simp
  rw [al] at e
  exact e
theorem looks_of {K : PySem.W.Frag} {H : Hp} {Q : VK} {E : XK} {l : Addr} {as : List Addr} {ks : List Lk} (h : LooksH H l as ks) (ok : LksOk ks) (q : ∀ l' H', H l' = none → Same H H' → LooksH H' l' as ks → Q (.ref l') H') : F_checked_looks K (.ref l) H Q E := by
  refine ⟨true, h.yes ok, (fun z => nomatch z), fun _ a xs ea e _ _ l' H' nl s el => ?_⟩
  cases ea
  rw [h.lst] at e
  cases e
  exact q l' H' nl s ⟨el, h.len, (h.same s).at_⟩
/-! slots: what they hold, tell and learn -/
inductive Sl where
  | even (n o : Int)
  | quick (h : Int)
  | run (b l : Int)
def slC : Sl → Str
  | .even _ _ => "Even"
  | .quick _ => "Quick"
  | .run _ _ => "Run"
def slF : Sl → List (Str × V)
  | .even n o => [("noughts", .int n), ("ones", .int o)]
  | .quick h => [("held", .int h)]
  | .run b l => [("last", .int b), ("length", .int l)]
def slO (K : PySem.W.Frag) (dx : Addr) (s : Sl) : HO := .ins (He.ga K (slC s)) dx (slF s)
def chanceS : Sl → Int
  | .even n o => (2 * o + 1) * 16777216 / (2 * (n + o) + 2)
  | .quick h => h
  | .run b l => if b = 1 then (2 * l + 1) * 16777216 / (2 * l + 2) else 16777216 - (2 * l + 1) * 16777216 / (2 * l + 2)
def evenS (n o : Int) : Sl := if n + o > 255 then .even ((n + 1) / 2) ((o + 1) / 2) else .even n o
def capQ (h : Int) : Int := if (if h < 16744448 then h else 16744448) > 32768 then (if h < 16744448 then h else 16744448) else 32768
def quickS (h b : Int) : Int := capQ (if b = 1 then h + (16777216 - h) / 16 else h - h / 16)
def seenS : Sl → Int → Sl
  | .even n o, b => if b = 1 then evenS n (o + 1) else evenS (n + 1) o
  | .quick h, b => .quick (quickS h b)
  | .run b0 l, b => if b = b0 then .run b0 (if 255 < l + 1 then 255 else l + 1) else .run b 1
def SlOk : Sl → Prop
  | .even n o => 0 ≤ n ∧ 0 ≤ o ∧ n + o ≤ 255
  | .quick h => 32768 ≤ h ∧ h ≤ 16744448
  | .run b l => 0 ≤ b ∧ b ≤ 1 ∧ 0 ≤ l ∧ l ≤ 255
theorem seenS_even {n o b : Int} : seenS (.even n o) b = if b = 1 then evenS n (o + 1) else evenS (n + 1) o := rfl
theorem seenS_quick {h b : Int} : seenS (.quick h) b = .quick (quickS h b) := rfl
theorem seenS_run {b0 l b : Int} : seenS (.run b0 l) b = if b = b0 then .run b0 (if 255 < l + 1 then 255 else l + 1) else .run b 1 := rfl
theorem chanceS_run {b l : Int} : chanceS (.run b l) = if b = 1 then (2 * l + 1) * 16777216 / (2 * l + 2) else 16777216 - (2 * l + 1) * 16777216 / (2 * l + 2) := rfl
theorem slO_even {K : PySem.W.Frag} {dx : Addr} {n o : Int} : slO K dx (.even n o) = .ins (He.ga K "Even") dx [("noughts", .int n), ("ones", .int o)] := rfl
theorem slO_quick {K : PySem.W.Frag} {dx : Addr} {h : Int} : slO K dx (.quick h) = .ins (He.ga K "Quick") dx [("held", .int h)] := rfl
theorem slO_run {K : PySem.W.Frag} {dx : Addr} {b l : Int} : slO K dx (.run b l) = .ins (He.ga K "Run") dx [("last", .int b), ("length", .int l)] := rfl
theorem evenS_ok {n o : Int} (h0 : 0 ≤ n) (h1 : 0 ≤ o) (h : n + o ≤ 256) : SlOk (evenS n o) := by
  unfold evenS
  split
  · show 0 ≤ (n + 1) / 2 ∧ 0 ≤ (o + 1) / 2 ∧ (n + 1) / 2 + (o + 1) / 2 ≤ 255
    omega
  · show 0 ≤ n ∧ 0 ≤ o ∧ n + o ≤ 255
    omega
theorem capQ_ok (h : Int) : 32768 ≤ capQ h ∧ capQ h ≤ 16744448 := by
  unfold capQ
  split <;> split <;> omega
theorem seenS_ok {s : Sl} {b : Int} (h : SlOk s) (hb : 0 ≤ b ∧ b ≤ 1) : SlOk (seenS s b) := by
  cases s with
  | even n o =>
    obtain ⟨h0, h1, h2⟩ := h
    rw [seenS_even]
    split
    · exact evenS_ok h0 (by omega) (by omega)
    · exact evenS_ok (by omega) h1 (by omega)
  | quick h => exact capQ_ok _
  | run b0 l =>
    obtain ⟨h0, h1, h2, h3⟩ := h
    rw [seenS_run]
    split
    · show 0 ≤ b0 ∧ b0 ≤ 1 ∧ 0 ≤ (if 255 < l + 1 then (255 : Int) else l + 1) ∧ (if 255 < l + 1 then (255 : Int) else l + 1) ≤ 255
      split <;> omega
    · show 0 ≤ b ∧ b ≤ 1 ∧ (0 : Int) ≤ 1 ∧ (1 : Int) ≤ 255
      omega
theorem slC_seen (s : Sl) (b : Int) : slC (seenS s b) = slC s := by
  cases s with
  | even n o => rw [seenS_even]; unfold evenS; split <;> split <;> rfl
  | quick h => rfl
  | run b0 l => rw [seenS_run]; split <;> rfl
theorem cdw_small {i j : Int} (h : 0 < j) (h2 : j < 2 ^ 40) : CDivW i j := ⟨h, by
  have : j.natAbs.log2 < 41 := (Nat.log2_lt (by omega)).mpr (by omega)
  omega⟩
section
variable (K : PySem.W.Frag)
def F_Even_init (K : PySem.W.Frag) : V → Hp → VK → XK → Prop := fun x H Q _ => ∃ a dx, x = .ref a ∧ H a = some (.ins (He.ga K "Even") dx []) ∧ Q .non (upd H a (slO K dx (.even 0 0)))
abbrev sp_Even_init (K : PySem.W.Frag) : Sp := on1 (F_Even_init K)
def F_Quick_init (K : PySem.W.Frag) : V → Hp → VK → XK → Prop := fun x H Q _ => ∃ a dx, x = .ref a ∧ H a = some (.ins (He.ga K "Quick") dx []) ∧ Q .non (upd H a (slO K dx (.quick 8388608)))
abbrev sp_Quick_init (K : PySem.W.Frag) : Sp := on1 (F_Quick_init K)
def F_Run_init (K : PySem.W.Frag) : V → Hp → VK → XK → Prop := fun x H Q _ => ∃ a dx, x = .ref a ∧ H a = some (.ins (He.ga K "Run") dx []) ∧ Q .non (upd H a (slO K dx (.run 0 0)))
abbrev sp_Run_init (K : PySem.W.Frag) : Sp := on1 (F_Run_init K)
def F_chance (K : PySem.W.Frag) (ok : Sl → Prop) : V → Hp → VK → XK → Prop := fun x H Q _ => ∃ a dx s, x = .ref a ∧ H a = some (slO K dx s) ∧ SlOk s ∧ ok s ∧ Q (.int (chanceS s)) H
def isE : Sl → Prop | .even _ _ => True | _ => False
def isQ : Sl → Prop | .quick _ => True | _ => False
def isR : Sl → Prop | .run _ _ => True | _ => False
abbrev sp_Even_chance (K : PySem.W.Frag) : Sp := on1 (F_chance K isE)
abbrev sp_Quick_chance (K : PySem.W.Frag) : Sp := on1 (F_chance K isQ)
abbrev sp_Run_chance (K : PySem.W.Frag) : Sp := on1 (F_chance K isR)
def F_seen (K : PySem.W.Frag) (ok : Sl → Prop) : V → V → Hp → VK → XK → Prop := fun x y H Q E => ∃ a dx s, x = .ref a ∧ H a = some (slO K dx s) ∧ SlOk s ∧ ok s ∧ TyW K H y ∧ (btw 0 1 y = false → E (.ref (He.ga K "NoBit")) none H) ∧
  (∀ b : Int, y = .int b → 0 ≤ b → b ≤ 1 → Q .non (upd H a (slO K dx (seenS s b))))
abbrev sp_Even_seen (K : PySem.W.Frag) : Sp := on2 (F_seen K isE)
abbrev sp_Quick_seen (K : PySem.W.Frag) : Sp := on2 (F_seen K isQ)
abbrev sp_Run_seen (K : PySem.W.Frag) : Sp := on2 (F_seen K isR)
theorem seen_of {a dx : Addr} {s : Sl} {ok : Sl → Prop} {b : Int} {H : Hp} {Q : VK} {E : XK} (ha : H a = some (slO K dx s)) (w : SlOk s) (k : ok s) (hb : 0 ≤ b ∧ b ≤ 1) (q : Q .non (upd H a (slO K dx (seenS s b)))) : F_seen K ok (.ref a) (.int b) H Q E :=
  ⟨a, dx, s, rfl, ha, w, k, .int, (fun z => by rw [btw, decide_eq_true hb.1, decide_eq_true hb.2] at z; cases z), fun b' e _ _ => by cases e; exact q⟩
end
section
variable (K : PySem.W.Frag) [HasCls K "Even"] [HasNo K "Even" "noughts"] [HasNo K "Even" "ones"]
def t_Even_init (K : PySem.W.Frag) (E : XK) : TS :=
  tSeq (sFld K (tVar 0) (tC (.int 0)) "noughts")
  (sFld K (tVar 0) (tC (.int 0)) "ones")
theorem pure_Even_init {x : V} {H : Hp} {Q : VK} {E : XK} (h : F_Even_init K x H Q E) : t_Even_init K E ⟨fun _ H' => Q .non H', Q, fun _ _ => False, fun _ _ => False⟩ [some x] H := by
  obtain ⟨a, dx, rfl, ha, q⟩ := h
  unfold t_Even_init
  walk_at "go"
  exact q
def t_Even_chance (K : PySem.W.Frag) (E : XK) : TS :=
  tRet (tOp (rFloor) (tOp (rTimes) (tOp (rPlus K) (tOp (rTimes) (tC (.int 2)) (tFld K (tVar 0) "ones")) (tC (.int 1))) (tC (.int 16777216))) (tOp (rPlus K) (tOp (rTimes) (tC (.int 2)) (tOp (rPlus K) (tFld K (tVar 0) "noughts") (tFld K (tVar 0) "ones"))) (tC (.int 2))))
theorem pure_Even_chance {x : V} {H : Hp} {Q : VK} {E : XK} (h : F_chance K isE x H Q E) : t_Even_chance K E ⟨fun _ H' => Q .non H', Q, fun _ _ => False, fun _ _ => False⟩ [some x] H := by
  refine Bx.out ?_
  simp (disch := with_unfolding_all
  obtain ⟨a, dx, s, rfl, ha, w, k, q⟩ := h
  cases s with
  | even n o =>
    obtain ⟨h0, h1, h2⟩ := w
    rw [slO_even] at ha
    unfold t_Even_chance
    walk_at "go"
    exact g_floor (cdw_small (by omega) (by omega)) q
  | _ => exact k.elim
  ) only [↓Bx.eq]
def t_Even_seen (K : PySem.W.Frag) (E : XK) : TS :=
  tSeq (tIfS (tTest (tOp (rSame K) (tFun (sp_checked_bit K) [] (fun _ => E) (tCons (tVar 1) (tNil))) (tC (.int 1)))) (sFldAug K (tVar 0) (tC (.int 1)) L2.rAdd "ones") (sFldAug K (tVar 0) (tC (.int 1)) L2.rAdd "noughts"))
  (tIfS (tTest (tOp (iGt) (tOp (rPlus K) (tFld K (tVar 0) "noughts") (tFld K (tVar 0) "ones")) (tC (.int 255)))) (tSeq (sFld K (tVar 0) (tOp (rFloor) (tOp (rPlus K) (tFld K (tVar 0) "noughts") (tC (.int 1))) (tC (.int 2))) "noughts")
  (sFld K (tVar 0) (tOp (rFloor) (tOp (rPlus K) (tFld K (tVar 0) "ones") (tC (.int 1))) (tC (.int 2))) "ones")) (tNext))
theorem pure_Even_seen {x y : V} {H : Hp} {Q : VK} {E : XK} (h : F_seen K isE x y H Q E) : t_Even_seen K E ⟨fun _ H' => Q .non H', Q, fun _ _ => False, fun _ _ => False⟩ [some x, some y] H := by
  refine Bx.out ?_
  simp (disch := with_unfolding_all
  obtain ⟨a, dx, s, rfl, ha, w, k, ty, r, q⟩ := h
  cases s with
  | even n o =>
    obtain ⟨h0, h1, h2⟩ := w
    rw [slO_even] at ha
    unfold t_Even_seen
    walk_at "go"
    refine ⟨ty, fun hy => ?_, r⟩
    obtain ⟨b, rfl, b1, b2⟩ := btw_int hy
    have q := q b rfl b1 b2
    rw [seenS_even] at q
    unfold evenS at q
    walk_at "go"
    refine dif (fun hb => ?_) fun hb => ?_
    · rw [if_pos hb] at q
      walk_at "go"
      refine dif (fun hc => ?_) fun hc => ?_
      · rw [if_pos hc] at q
        walk_at "go"
        exact q
      · rw [if_neg hc] at q
        walk_at "go"
        exact q
    · rw [if_neg hb] at q
      walk_at "go"
      refine dif (fun hc => ?_) fun hc => ?_
      · rw [if_pos hc] at q
        walk_at "go"
        exact q
      · rw [if_neg hc] at q
        walk_at "go"
        exact q
  | _ => exact k.elim
  ) only [↓Bx.eq]
end
section
variable (K : PySem.W.Frag) [HasCls K "Quick"] [HasNo K "Quick" "held"]
def t_Quick_init (K : PySem.W.Frag) (E : XK) : TS :=
  sFld K (tVar 0) (tOp (rFloor) (tC (.int 16777216)) (tC (.int 2))) "held"
theorem pure_Quick_init {x : V} {H : Hp} {Q : VK} {E : XK} (h : F_Quick_init K x H Q E) : t_Quick_init K E ⟨fun _ H' => Q .non H', Q, fun _ _ => False, fun _ _ => False⟩ [some x] H := by
  obtain ⟨a, dx, rfl, ha, q⟩ := h
  unfold t_Quick_init
  walk_at "go"
  exact q
def t_Quick_chance (K : PySem.W.Frag) (E : XK) : TS :=
  tRet (tFld K (tVar 0) "held")
theorem pure_Quick_chance {x : V} {H : Hp} {Q : VK} {E : XK} (h : F_chance K isQ x H Q E) : t_Quick_chance K E ⟨fun _ H' => Q .non H', Q, fun _ _ => False, fun _ _ => False⟩ [some x] H := by
  refine Bx.out ?_
  simp (disch := with_unfolding_all
  obtain ⟨a, dx, s, rfl, ha, w, k, q⟩ := h
  cases s with
  | quick h =>
    rw [slO_quick] at ha
    unfold t_Quick_chance
    walk_at "go"
    exact q
  | _ => exact k.elim
  ) only [↓Bx.eq]
def t_Quick_seen (K : PySem.W.Frag) (E : XK) : TS :=
  tSeq (tIfS (tTest (tOp (rSame K) (tFun (sp_checked_bit K) [] (fun _ => E) (tCons (tVar 1) (tNil))) (tC (.int 1)))) (sFldAug K (tVar 0) (tOp (rFloor) (tOp (rMinus) (tC (.int 16777216)) (tFld K (tVar 0) "held")) (tC (.int 16))) L2.rAdd "held") (sFldAug K (tVar 0) (tOp (rFloor) (tFld K (tVar 0) "held") (tC (.int 16))) L2.rSub "held"))
  (sFld K (tVar 0) (tCB (rGreatest K) (tCons (tC (.int 32768)) (tCons (tCB (rLeast K) (tCons (tOp (rMinus) (tC (.int 16777216)) (tC (.int 32768))) (tCons (tFld K (tVar 0) "held") (tNil)))) (tNil)))) "held")
theorem pure_Quick_seen {x y : V} {H : Hp} {Q : VK} {E : XK} (h : F_seen K isQ x y H Q E) : t_Quick_seen K E ⟨fun _ H' => Q .non H', Q, fun _ _ => False, fun _ _ => False⟩ [some x, some y] H := by
  refine Bx.out ?_
  simp (disch := with_unfolding_all
  obtain ⟨a, dx, s, rfl, ha, w, k, ty, r, q⟩ := h
  cases s with
  | quick h =>
    rw [slO_quick] at ha
    unfold t_Quick_seen
    walk_at "go"
    refine ⟨ty, fun hy => ?_, r⟩
    obtain ⟨b, rfl, b1, b2⟩ := btw_int hy
    have q := q b rfl b1 b2
    rw [seenS_quick] at q
    unfold quickS at q
    walk_at "go"
    refine dif (fun hb => ?_) fun hb => ?_
    · rw [if_pos hb] at q
      walk_at "go"
      exact q
    · rw [if_neg hb] at q
      walk_at "go"
      exact q
  | _ => exact k.elim
  ) only [↓Bx.eq]
end
section
variable (K : PySem.W.Frag) [HasCls K "Run"] [HasNo K "Run" "last"] [HasNo K "Run" "length"]
def t_Run_init (K : PySem.W.Frag) (E : XK) : TS :=
  tSeq (sFld K (tVar 0) (tC (.int 0)) "last")
  (sFld K (tVar 0) (tC (.int 0)) "length")
theorem pure_Run_init {x : V} {H : Hp} {Q : VK} {E : XK} (h : F_Run_init K x H Q E) : t_Run_init K E ⟨fun _ H' => Q .non H', Q, fun _ _ => False, fun _ _ => False⟩ [some x] H := by
  obtain ⟨a, dx, rfl, ha, q⟩ := h
  unfold t_Run_init
  walk_at "go"
  exact q
def t_Run_chance (K : PySem.W.Frag) (E : XK) : TS :=
  tSeq (tAsg (tOp (rFloor) (tOp (rTimes) (tOp (rPlus K) (tOp (rTimes) (tC (.int 2)) (tFld K (tVar 0) "length")) (tC (.int 1))) (tC (.int 16777216))) (tOp (rPlus K) (tOp (rTimes) (tC (.int 2)) (tFld K (tVar 0) "length")) (tC (.int 2)))) (gName 1))
  (tSeq (tIfS (tTest (tOp (rSame K) (tFld K (tVar 0) "last") (tC (.int 1)))) (tRet (tVar 1)) (tNext))
  (tRet (tOp (rMinus) (tC (.int 16777216)) (tVar 1))))
theorem pure_Run_chance {x : V} {H : Hp} {Q : VK} {E : XK} (h : F_chance K isR x H Q E) : t_Run_chance K E ⟨fun _ H' => Q .non H', Q, fun _ _ => False, fun _ _ => False⟩ [some x, none] H := by
  refine Bx.out ?_
  simp (disch := with_unfolding_all
  obtain ⟨a, dx, s, rfl, ha, w, k, q⟩ := h
  cases s with
  | run b l =>
    obtain ⟨h0, h1, h2, h3⟩ := w
    rw [slO_run] at ha
    rw [chanceS_run] at q
    unfold t_Run_chance
    walk_at "go"
    refine g_floor (cdw_small (by omega) (by omega)) ?_
    walk_at "go"
    refine dif (fun hb => ?_) fun hb => ?_
    · rw [if_pos hb] at q
      walk_at "go"
      exact q
    · rw [if_neg hb] at q
      walk_at "go"
      exact q
  | _ => exact k.elim
  ) only [↓Bx.eq]
def t_Run_seen (K : PySem.W.Frag) (E : XK) : TS :=
  tIfS (tTest (tOp (rSame K) (tFun (sp_checked_bit K) [] (fun _ => E) (tCons (tVar 1) (tNil))) (tFld K (tVar 0) "last"))) (sFld K (tVar 0) (tCB (rLeast K) (tCons (tOp (rPlus K) (tFld K (tVar 0) "length") (tC (.int 1))) (tCons (tC (.int 255)) (tNil)))) "length") (tSeq (sFld K (tVar 0) (tVar 1) "last")
  (sFld K (tVar 0) (tC (.int 1)) "length"))
theorem pure_Run_seen {x y : V} {H : Hp} {Q : VK} {E : XK} (h : F_seen K isR x y H Q E) : t_Run_seen K E ⟨fun _ H' => Q .non H', Q, fun _ _ => False, fun _ _ => False⟩ [some x, some y] H := by
  refine Bx.out ?_
  simp (disch := with_unfolding_all
  obtain ⟨a, dx, s, rfl, ha, w, k, ty, r, q⟩ := h
  cases s with
  | run b0 l =>
    obtain ⟨h0, h1, h2, h3⟩ := w
    rw [slO_run] at ha
    unfold t_Run_seen
    walk_at "go"
    refine ⟨ty, fun hy => ?_, r⟩
    obtain ⟨b, rfl, b1, b2⟩ := btw_int hy
    have q := q b rfl b1 b2
    rw [seenS_run] at q
    walk_at "go"
    refine dif (fun hb => ?_) fun hb => ?_
    · rw [if_pos hb] at q
      walk_at "go"
      exact q
    · rw [if_neg hb] at q
      walk_at "go"
      exact q
  | _ => exact k.elim
  ) only [↓Bx.eq]
end
theorem pick_chance {K : PySem.W.Frag} {H : Hp} {a dx : Addr} {s : Sl} {A : Sp → Prop} (h : H a = some (slO K dx s)) (hA : ∀ ok : Sl → Prop, ok s → A (on1 (F_chance K ok))) :
    mthK "chance" (orM (one (He.ga K "Even") (sp_Even_chance K)) (orM (one (He.ga K "Quick") (sp_Quick_chance K)) (one (He.ga K "Run") (sp_Run_chance K)))) (.ref a) H A := by
  cases s with
  | even n o => exact g_orA (g_one h rfl (hA _ trivial))
  | quick h' => exact g_orB (g_orA (g_one h rfl (hA _ trivial)))
  | run b l => exact g_orB (g_orB (g_one h rfl (hA _ trivial)))
theorem pick_seen {K : PySem.W.Frag} {H : Hp} {a dx : Addr} {s : Sl} {A : Sp → Prop} (h : H a = some (slO K dx s)) (hA : ∀ ok : Sl → Prop, ok s → A (on2 (F_seen K ok))) :
    mthK "seen" (orM (one (He.ga K "Even") (sp_Even_seen K)) (orM (one (He.ga K "Quick") (sp_Quick_seen K)) (one (He.ga K "Run") (sp_Run_seen K)))) (.ref a) H A := by
  cases s with
  | even n o => exact g_orA (g_one h rfl (hA _ trivial))
  | quick h' => exact g_orB (g_orA (g_one h rfl (hA _ trivial)))
  | run b l => exact g_orB (g_orB (g_one h rfl (hA _ trivial)))
def kindS : Sl → Str
  | .even _ _ => "even"
  | .quick _ => "quick"
  | .run _ _ => "run"
/-- a slot of a kind's name, fresh -/
def new0 (kind : Str) : Sl := if kind = "even" then .even 0 0 else if kind = "quick" then .quick 8388608 else .run 0 0
def F_slot_of (K : PySem.W.Frag) : V → Hp → VK → XK → Prop := fun x H Q _ => ∃ kind : Str, x = .str kind ∧ ∀ a dx H', H a = none → Same H H' → H' a = some (slO K dx (new0 kind)) → Q (.ref a) H'
abbrev sp_slot_of (K : PySem.W.Frag) : Sp := on1 (F_slot_of K)
theorem new0_ok (kind : Str) : SlOk (new0 kind) := by
  unfold new0
  split
  · exact ⟨by decide, by decide, by decide⟩
  · split
    · exact ⟨by decide, by decide⟩
    · exact ⟨by decide, by decide, by decide, by decide⟩
def t_slot_of (K : PySem.W.Frag) (E : XK) : TS :=
  tSeq (tIfS (tTest (tOp (rSame K) (tVar 0) (tC (.str "even")))) (tRet (tNew (He.ga K "Even") (sp_Even_init K) [] (fun _ => E) (tNil))) (tNext))
  (tSeq (tIfS (tTest (tOp (rSame K) (tVar 0) (tC (.str "quick")))) (tRet (tNew (He.ga K "Quick") (sp_Quick_init K) [] (fun _ => E) (tNil))) (tNext))
  (tRet (tNew (He.ga K "Run") (sp_Run_init K) [] (fun _ => E) (tNil))))
theorem pure_slot_of (K : PySem.W.Frag) {x : V} {H : Hp} {Q : VK} {E : XK} (h : F_slot_of K x H Q E) : t_slot_of K E ⟨fun _ H' => Q .non H', Q, fun _ _ => False, fun _ _ => False⟩ [some x] H := by
  refine Bx.out ?_
  simp (disch := with_unfolding_all
  obtain ⟨kind, rfl, q⟩ := h
  unfold t_slot_of
  walk_at "go"
  refine dif (fun h1 => ?_) fun h1 => ?_
  · walk_at "go"
    intro a dx na ndx nad
    walk_at "go"
    refine ⟨a, dx, rfl, upd_same, rfl, ?_⟩
    rw [upd_upd]
    exact q a dx _ na (by walk_at "sm") (by rw [upd_same, new0, if_pos h1])
  · walk_at "go"
    refine dif (fun h2 => ?_) fun h2 => ?_
    · walk_at "go"
      intro a dx na ndx nad
      walk_at "go"
      refine ⟨a, dx, rfl, upd_same, rfl, ?_⟩
      rw [upd_upd]
      exact q a dx _ na (by walk_at "sm") (by rw [upd_same, new0, if_neg h1, if_pos h2])
    · walk_at "go"
      intro a dx na ndx nad
      walk_at "go"
      refine ⟨a, dx, rfl, upd_same, rfl, ?_⟩
      rw [upd_upd]
      exact q a dx _ na (by walk_at "sm") (by rw [upd_same, new0, if_neg h1, if_neg h2])
  ) only [↓Bx.eq]
/-! a book: its slots by contexts -/
def kc (c : List Int) : List Key := c.map Sum.inl
theorem kc_inj {c d : List Int} (h : kc c = kc d) : c = d := (List.map_inj_right fun _ _ h => Sum.inl.inj h).mp h
theorem kc_v (c : List Int) : (kc c).map kV = c.map V.int := by unfold kc; rw [List.map_map]; rfl
abbrev BkF := List Int → Sl
def fresh (kind : Str) : BkF := fun _ => new0 kind
def updB (f : BkF) (c : List Int) (s : Sl) : BkF := fun d => if d = c then s else f d
/-- neither a list nor a tuple -/
structure MutO (o : HO) : Prop where
  t : ∀ xs, o ≠ .tup xs
  l : ∀ xs, o ≠ .lst xs
theorem MutO.sl {K : PySem.W.Frag} {dx : Addr} {s : Sl} : MutO (slO K dx s) := ⟨fun xs z => (by cases s <;> cases z), fun xs z => (by cases s <;> cases z)⟩
theorem MutO.ins {C dx : Addr} {fs : List (Str × V)} : MutO (.ins C dx fs) := ⟨fun xs z => (by cases z), fun xs z => (by cases z)⟩
theorem MutO.dT {kvs : List (List Key × V)} : MutO (.dT kvs) := ⟨fun xs z => (by cases z), fun xs z => (by cases z)⟩
abbrev bookF (la d : Addr) : List (Str × V) := [("look", .ref la), ("slots", .ref d)]
theorem book_ne {K : PySem.W.Frag} {C dx sx la d : Addr} {s : Sl} : HO.ins C dx (bookF la d) ≠ slO K sx s := fun z => by
  have z := (HO.ins.inj z).2.2
  cases s <;> simp [bookF, slF] at z
structure BookX (K : PySem.W.Frag) (H : Hp) (a dx la d : Addr) (kvs : List (List Key × V)) (Fp : Addr → Prop) (k : Lk) (f : BkF) (n : Nat) : Prop where
  ins : H a = some (.ins (He.ga K "Book") dx (bookF la d))
  look : LookH H la k
  dic : H d = some (.dT kvs)
  len : kvs.length ≤ n
  fa : Fp a
  fd : Fp d
  non : ∀ c, valV kvs (kc c) = none → f c = new0 k.1
  som : ∀ c v, valV kvs (kc c) = some v → ∃ s sx, v = .ref s ∧ H s = some (slO K sx (f c)) ∧ Fp s
  inj : ∀ c c' s, valV kvs (kc c) = some (.ref s) → valV kvs (kc c') = some (.ref s) → c = c'
  ok : ∀ c, SlOk (f c)
  dom : ∀ b, Fp b → ∃ o, H b = some o ∧ MutO o
def BookAt (K : PySem.W.Frag) (H : Hp) (a : Addr) (Fp : Addr → Prop) (k : Lk) (f : BkF) (n : Nat) : Prop := ∃ dx la d kvs, BookX K H a dx la d kvs Fp k f n
theorem LookH.keep {M : Addr → Prop} {H H1 : Hp} {a : Addr} {k : Lk} (h : LookH H a k) (s : SameX M H H1) (nt : ∀ b xs, H b = some (.tup xs) → ¬ M b) : LookH H1 a k := by
  obtain ⟨b, h1, h2⟩ := h
  exact ⟨b, s.kp _ _ (nt _ _ h1) h1, s.kp _ _ (nt _ _ h2) h2⟩
theorem BookX.keep {K : PySem.W.Frag} {H H1 : Hp} {a dx la d : Addr} {kvs : List (List Key × V)} {Fp M : Addr → Prop} {k : Lk} {f : BkF} {n : Nat} (h : BookX K H a dx la d kvs Fp k f n) (s : SameX M H H1) (dj : ∀ b, Fp b → ¬ M b) (nt : ∀ b xs, H b = some (.tup xs) → ¬ M b) : BookX K H1 a dx la d kvs Fp k f n :=
  ⟨s.kp _ _ (dj _ h.fa) h.ins, h.look.keep s nt, s.kp _ _ (dj _ h.fd) h.dic, h.len, h.fa, h.fd, h.non, fun c v hv => by
    obtain ⟨x, sx, e, hx, fx⟩ := h.som c v hv
    exact ⟨x, sx, e, s.kp _ _ (dj _ fx) hx, fx⟩, h.inj, h.ok, fun b hb => by
    obtain ⟨o, ho, m⟩ := h.dom b hb
    exact ⟨o, s.kp _ _ (dj _ hb) ho, m⟩⟩
theorem BookAt.keep {K : PySem.W.Frag} {H H1 : Hp} {a : Addr} {Fp M : Addr → Prop} {k : Lk} {f : BkF} {n : Nat} (h : BookAt K H a Fp k f n) (s : SameX M H H1) (dj : ∀ b, Fp b → ¬ M b) (nt : ∀ b xs, H b = some (.tup xs) → ¬ M b) : BookAt K H1 a Fp k f n := by
  obtain ⟨dx, la, d, kvs, h⟩ := h
  exact ⟨dx, la, d, kvs, h.keep s dj nt⟩
theorem BookAt.same {K : PySem.W.Frag} {H H1 : Hp} {a : Addr} {Fp : Addr → Prop} {k : Lk} {f : BkF} {n : Nat} (h : BookAt K H a Fp k f n) (s : Same H H1) : BookAt K H1 a Fp k f n := h.keep (M := fun _ => False) (SameX.of s) (fun _ _ z => z) fun _ _ _ z => z
theorem BookAt.dom {K : PySem.W.Frag} {H : Hp} {a : Addr} {Fp : Addr → Prop} {k : Lk} {f : BkF} {n : Nat} (h : BookAt K H a Fp k f n) : ∀ b, Fp b → ∃ o, H b = some o ∧ MutO o := by
  obtain ⟨dx, la, d, kvs, h⟩ := h
  exact h.dom
/-- a list's place is in no book -/
theorem BookAt.nl {K : PySem.W.Frag} {H : Hp} {a c : Addr} {Fp : Addr → Prop} {k : Lk} {f : BkF} {n : Nat} {xs : List V} (h : BookAt K H a Fp k f n) (e : H c = some (.lst xs)) : ¬ Fp c := fun z => by
  obtain ⟨o, ho, m⟩ := h.dom _ z
  rw [e] at ho
  cases ho
  exact m.l _ rfl
theorem BookAt.nt {K : PySem.W.Frag} {H : Hp} {a c : Addr} {Fp : Addr → Prop} {k : Lk} {f : BkF} {n : Nat} {xs : List V} (h : BookAt K H a Fp k f n) (e : H c = some (.tup xs)) : ¬ Fp c := fun z => by
  obtain ⟨o, ho, m⟩ := h.dom _ z
  rw [e] at ho
  cases ho
  exact m.t _ rfl
theorem g_dput {σ : St} {H : Hp} {td ty tv : TE} {n : St → Hp → Prop} {rt : VK} {bk ct : St → Hp → Prop} (q : tv σ H fun v H1 => td σ H1 fun x H2 => ty σ H2 fun y H3 => ∃ a H4, x = .ref a ∧ DPut H3 a y v H4 ∧ n σ H4) : sDPut td ty tv ⟨n, rt, bk, ct⟩ σ H := q
theorem g_dnewT {σ : St} {H : Hp} {Q : VK} (q : ∀ p, H p = none → Q (.ref p) (upd H p (.dT []))) : tDNewT σ H Q := q
section
variable (K : PySem.W.Frag) [HasCls K "Book"] [HasNo K "Book" "look"] [HasNo K "Book" "slots"]
def F_Book_init (K : PySem.W.Frag) : V → V → Hp → VK → XK → Prop := fun x y H Q _ => ∃ (a dx la : Addr) (k : Lk), x = .ref a ∧ y = .ref la ∧ H a = some (.ins (He.ga K "Book") dx []) ∧ LookH H la k ∧
  ∀ Fp H', (∀ b, Fp b → b = a ∨ H b = none) → SameX (· = a) H H' → BookAt K H' a Fp k (fresh k.1) 0 → Q .non H'
abbrev sp_Book_init (K : PySem.W.Frag) : Sp := on2 (F_Book_init K)
def t_Book_init (K : PySem.W.Frag) (E : XK) : TS :=
  tSeq (sFld K (tVar 0) (tVar 1) "look")
  (sFld K (tVar 0) (tDNewT) "slots")
theorem pure_Book_init {x y : V} {H : Hp} {Q : VK} {E : XK} (h : F_Book_init K x y H Q E) : t_Book_init K E ⟨fun _ H' => Q .non H', Q, fun _ _ => False, fun _ _ => False⟩ [some x, some y] H := by
  refine Bx.out ?_
  simp (disch := with_unfolding_all
  obtain ⟨a, dx, la, k, rfl, rfl, ha, ⟨b, e1, e2⟩, q⟩ := h
  unfold t_Book_init
  walk_at "go"
  refine g_dnewT fun p np => ?_
  walk_at "go"
  have nla : la ≠ a := ne_kind e1 ha (by intro z; cases z)
  have nba : b ≠ a := ne_kind e2 ha (by intro z; cases z)
  have npH := upd_none np
  have npa : p ≠ a := fun z => by rw [z, upd_same] at np; cases np
  refine q (fun b => b = a ∨ b = p) _ (fun b hb => by rcases hb with rfl | rfl
                                                      · exact .inl rfl
                                                      · exact .inr npH) ((((SameX.refl (M := (· = a)) H).mut (a := a) rfl).new np).mut (a := a) rfl) ⟨dx, la, p, [], ⟨upd_same, ⟨b, ?_, ?_⟩, lk_mut npa upd_same, Nat.le_refl _, .inl rfl, .inr rfl, fun _ _ => rfl, (fun _ _ z => nomatch z), (fun _ _ _ z => nomatch z), fun _ => new0_ok _, ?_⟩⟩
  · exact lk_mut nla (lk_new (lk_mut nla e1) np)
  · exact lk_mut nba (lk_new (lk_mut nba e2) np)
  · rintro b (rfl | rfl)
    · exact ⟨_, upd_same, MutO.ins⟩
    · exact ⟨_, lk_mut npa upd_same, MutO.dT⟩
  ) only [↓Bx.eq]
def F_Book_chance (K : PySem.W.Frag) : V → V → V → Hp → VK → XK → Prop := fun x y z H Q _ => ∃ (a c : Addr) (Fp : Addr → Prop) (k : Lk) (f : BkF) (n : Nat) (ns : List Int) (node : Int), x = .ref a ∧ y = .ref c ∧ z = .int node ∧ BookAt K H a Fp k f n ∧ LkOk k ∧ SqL K H c (ns.map V.int) ∧
  ∀ H', Same H H' → Q (.int (chanceS (f (ctx k.2 ns node)))) H'
abbrev sp_Book_chance (K : PySem.W.Frag) : Sp := on3 (F_Book_chance K)
def t_Book_chance (K : PySem.W.Frag) (E : XK) : TS :=
  tSeq (tAsg (tFun (sp_context_of K) [] (fun _ => E) (tCons (tFld K (tVar 0) "look") (tCons (tVar 1) (tCons (tVar 2) (tNil))))) (gName 3))
  (tSeq (tIfS (tB (tDIn (tVar 3) (tFld K (tVar 0) "slots"))) (tRet (tMth "chance" (orM (one (He.ga K "Even") (sp_Even_chance K)) (orM (one (He.ga K "Quick") (sp_Quick_chance K)) (one (He.ga K "Run") (sp_Run_chance K)))) (fun _ => E) (tDGet (tFld K (tVar 0) "slots") (tVar 3)) (tNil))) (tNext))
  (tRet (tMth "chance" (orM (one (He.ga K "Even") (sp_Even_chance K)) (orM (one (He.ga K "Quick") (sp_Quick_chance K)) (one (He.ga K "Run") (sp_Run_chance K)))) (fun _ => E) (tFun (sp_slot_of K) [] (fun _ => E) (tCons (tOp (rIx K) (tFld K (tVar 0) "look") (tC (.int 0))) (tNil))) (tNil))))
theorem pure_Book_chance {x y z : V} {H : Hp} {Q : VK} {E : XK} (h : F_Book_chance K x y z H Q E) : t_Book_chance K E ⟨fun _ H' => Q .non H', Q, fun _ _ => False, fun _ _ => False⟩ [some x, some y, some z, none] H := by
  refine Bx.out ?_
  simp (disch := with_unfolding_all
  obtain ⟨a, c, Fp, k, f, n, ns, node, rfl, rfl, rfl, ⟨dx, la, d, kvs, B⟩, ok, hc, q⟩ := h
  have ha := B.ins
  unfold t_Book_chance
  walk_at "go"
  refine ⟨la, c, k.1, k.2, ns, node, rfl, rfl, rfl, B.look.at_ ok, hc, fun p H1 np s1 ep => ?_⟩
  generalize ctx k.2 ns node = cx at ep q
  have B1 := B.keep (M := fun _ => False) (SameX.of s1) (fun _ _ z => z) fun _ _ _ z => z
  have ha := B1.ins
  have g : DGet H1 d (.ref p) (valV kvs (kc cx)) := DGet.t B1.dic (by rw [kc_v]; exact ep)
  walk_at "go"
  refine ⟨d, _, rfl, g, ?_⟩
  refine g_ebl ?_
  cases e : valV kvs (kc cx) with
  | none =>
    refine g_ifF ?_
    obtain ⟨b, e1, e2⟩ := B1.look
    walk_at "go"
    refine ⟨k.1, rfl, fun s sx H2 ns2 s2 es => ?_⟩
    refine pick_chance es fun ok w => ?_
    walk_at "go"
    refine ⟨s, sx, _, rfl, es, new0_ok _, w, ?_⟩
    rw [B.non _ e] at q
    exact q _ (Same.trans s1 s2)
  | some v =>
    obtain ⟨s, sx, rfl, es, fs⟩ := B1.som _ _ e
    rw [e] at g
    refine g_ifT ?_
    walk_at "go"
    refine ⟨d, _, rfl, g, ?_⟩
    refine pick_chance es fun ok w => ?_
    walk_at "go"
    exact ⟨s, sx, _, rfl, es, B.ok _, w, q _ s1⟩
  ) only [↓Bx.eq]
def F_Book_seen (K : PySem.W.Frag) : V → V → V → V → Hp → VK → XK → Prop := fun x y z u H Q E => ∃ (a c : Addr) (Fp : Addr → Prop) (k : Lk) (f : BkF) (n : Nat) (ns : List Int) (node : Int), x = .ref a ∧ y = .ref c ∧ z = .int node ∧ BookAt K H a Fp k f n ∧ n ≤ 900000 ∧ LkOk k ∧ SqL K H c (ns.map V.int) ∧ TyW K H u ∧
  (btw 0 1 u = false → E (.ref (He.ga K "NoBit")) none H) ∧ ∀ b : Int, u = .int b → 0 ≤ b → b ≤ 1 → ∀ Fp' H', SameX Fp H H' → (∀ x, Fp' x → Fp x ∨ H x = none) → BookAt K H' a Fp' k (updB f (ctx k.2 ns node) (seenS (f (ctx k.2 ns node)) b)) (n + 1) → Q .non H'
abbrev sp_Book_seen (K : PySem.W.Frag) : Sp := on4 (F_Book_seen K)
def t_Book_seen (K : PySem.W.Frag) (E : XK) : TS :=
  tSeq (tDrop (tFun (sp_checked_bit K) [] (fun _ => E) (tCons (tVar 3) (tNil))))
  (tSeq (tAsg (tFun (sp_context_of K) [] (fun _ => E) (tCons (tFld K (tVar 0) "look") (tCons (tVar 1) (tCons (tVar 2) (tNil))))) (gName 4))
  (tSeq (tIfS (tB (tDNotIn (tVar 4) (tFld K (tVar 0) "slots"))) (sDPut (tFld K (tVar 0) "slots") (tVar 4) (tFun (sp_slot_of K) [] (fun _ => E) (tCons (tOp (rIx K) (tFld K (tVar 0) "look") (tC (.int 0))) (tNil)))) (tNext))
  (tDrop (tMth "seen" (orM (one (He.ga K "Even") (sp_Even_seen K)) (orM (one (He.ga K "Quick") (sp_Quick_seen K)) (one (He.ga K "Run") (sp_Run_seen K)))) (fun _ => E) (tDGet (tFld K (tVar 0) "slots") (tVar 4)) (tCons (tVar 3) (tNil))))))
theorem pure_Book_seen {x y z u : V} {H : Hp} {Q : VK} {E : XK} (h : F_Book_seen K x y z u H Q E) : t_Book_seen K E ⟨fun _ H' => Q .non H', Q, fun _ _ => False, fun _ _ => False⟩ [some x, some y, some z, some u, none] H := by
  refine Bx.out ?_
  simp (disch := with_unfolding_all
  obtain ⟨a, c, Fp, k, f, n, ns, node, rfl, rfl, rfl, ⟨dx, la, d, kvs, B⟩, hn, ok, hc, tu, r, q⟩ := h
  have ha := B.ins
  unfold t_Book_seen
  walk_at "go"
  refine ⟨tu, fun hu => ?_, r⟩
  obtain ⟨b, rfl, b1, b2⟩ := btw_int hu
  have q := q b rfl b1 b2
  walk_at "go"
  refine ⟨la, c, k.1, k.2, ns, node, rfl, rfl, rfl, B.look.at_ ok, hc, fun p H1 np s1 ep => ?_⟩
  generalize ctx k.2 ns node = cx at ep q
  have B1 := B.keep (M := fun _ => False) (SameX.of s1) (fun _ _ z => z) fun _ _ _ z => z
  have ha := B1.ins
  have g : DGet H1 d (.ref p) (valV kvs (kc cx)) := DGet.t B1.dic (by rw [kc_v]; exact ep)
  have tail : ∀ H3 kvs3 (Fp3 : Addr → Prop) s, SameX Fp H H3 → (∀ x, Fp3 x → Fp x ∨ H x = none) → H3 p = some (.tup (cx.map V.int)) → BookX K H3 a dx la d kvs3 Fp3 k f (n + 1) → valV kvs3 (kc cx) = some (.ref s) →
      (tDrop (tMth "seen" (orM (one (He.ga K "Even") (sp_Even_seen K)) (orM (one (He.ga K "Quick") (sp_Quick_seen K)) (one (He.ga K "Run") (sp_Run_seen K)))) (fun _ => E) (tDGet (tFld K (tVar 0) "slots") (tVar 4)) (tCons (tVar 3) (tNil))))
      ⟨fun _ H' => Q .non H', Q, fun _ _ => False, fun _ _ => False⟩ [some (.ref a), some (.ref c), some (.int node), some (.int b), some (.ref p)] H3 := by
    intro H3 kvs3 Fp3 s S grow ep B3 e
    have ha := B3.ins
    obtain ⟨s', sx, es', es, fs⟩ := B3.som _ _ e
    cases es'
    have g : DGet H3 d (.ref p) (some (.ref s)) := by rw [← e]; exact DGet.t B3.dic (by rw [kc_v]; exact ep)
    walk_at "go"
    refine ⟨d, _, rfl, g, ?_⟩
    refine pick_seen es fun ok w => ?_
    walk_at "go"
    refine seen_of K es (B3.ok _) w ⟨b1, b2⟩ ?_
    have nea : a ≠ s := ne_kind ha es book_ne
    have ned : d ≠ s := ne_kind B3.dic es (by intro z; cases hf : f cx <;> (rw [hf] at z; cases z))
    have S4 : SameX Fp H (upd H3 s (slO K sx (seenS (f cx) b))) := by
      rcases grow _ fs with z | z
      · exact S.mut z
      · exact S.newmut z
    refine q Fp3 _ S4 grow ⟨dx, la, d, kvs3, ⟨lk_mut nea B3.ins, ?_, lk_mut ned B3.dic, B3.len, B3.fa, B3.fd, fun c' hc' => ?_, fun c' v hv => ?_, B3.inj, fun c' => ?_, fun x hx => ?_⟩⟩
    · obtain ⟨t, t1, t2⟩ := B3.look
      exact ⟨t, lk_mut (ne_kind t1 es (fun z => MutO.sl.t _ z.symm)) t1, lk_mut (ne_kind t2 es (fun z => MutO.sl.t _ z.symm)) t2⟩
    · unfold updB
      rw [if_neg (fun z => by rw [z, e] at hc'; cases hc')]
      exact B3.non _ hc'
    · obtain ⟨x, xx, rfl, hx, fx⟩ := B3.som _ _ hv
      by_cases z : c' = cx
      · subst z
        rw [e] at hv
        cases hv
        exact ⟨s, sx, rfl, by rw [upd_same]; unfold updB; rw [if_pos rfl], fx⟩
      · have nx : x ≠ s := fun y => z (B3.inj _ _ s (by rw [← y]; exact hv) e)
        exact ⟨x, xx, rfl, by rw [upd_ne nx, hx]; unfold updB; rw [if_neg z], fx⟩
    · unfold updB
      split
      · exact seenS_ok (B3.ok _) ⟨b1, b2⟩
      · exact B3.ok _
    · obtain ⟨o, ho, m⟩ := B3.dom x hx
      by_cases z : x = s
      · exact ⟨_, by rw [z, upd_same], MutO.sl⟩
      · exact ⟨o, lk_mut z ho, m⟩
  walk_at "go"
  refine ⟨d, _, rfl, g, ?_⟩
  refine g_ebl ?_
  cases e : valV kvs (kc cx) with
  | none =>
    refine g_ifT ?_
    obtain ⟨lb, e1, e2⟩ := B1.look
    refine g_dput ?_
    walk_at "go"
    refine ⟨k.1, rfl, fun s sx H2 ns2 s2 es => ?_⟩
    have B2 := B1.keep (M := fun _ => False) (SameX.of s2) (fun _ _ z => z) fun _ _ _ z => z
    have ep := s2 _ _ ep
    have ha := B2.ins
    have S2 := Same.trans s1 s2
    walk_at "go"
    have bl := B.len
    refine ⟨d, _, rfl, DPut.t B2.dic (by rw [kc_v]; exact ep) (Nat.lt_of_le_of_lt (m := 1000000) (by omega) (by decide)), ?_⟩
    have ned : a ≠ d := ne_kind ha B2.dic (by intro z; cases z)
    have nsd : s ≠ d := ne_kind es B2.dic (by intro z; cases hf : new0 k.1 <;> (rw [hf] at z; cases z))
    have ned2 : ∀ {x : Addr} {xs : List V}, H2 x = some (.tup xs) → x ≠ d := fun h => ne_kind h B2.dic (by intro z; cases z)
    have nH : H s = none := s1.free ns2
    refine tail _ _ (fun x => Fp x ∨ x = s) s ((SameX.of S2).mut B.fd) (fun x hx => ?_) (lk_mut (ned2 ep) ep) ⟨lk_mut ned ha, ?_, upd_same, Nat.le_trans (length_putK _ _ _) (by omega), .inl B.fa, .inl B.fd, fun c' hc' => ?_, fun c' v hv => ?_, fun c1 c2 x h1 h2 => ?_, B.ok, fun x hx => ?_⟩ ?_
    · rcases hx with hx | rfl
      · exact .inl hx
      · exact .inr nH
    · obtain ⟨t, t1, t2⟩ := B2.look
      exact ⟨t, lk_mut (ned2 t1) t1, lk_mut (ned2 t2) t2⟩
    · rw [valV_put] at hc'
      split at hc'
      · cases hc'
      · exact B.non _ hc'
    · rw [valV_put] at hv
      split at hv
      · rename_i z
        cases hv
        rw [kc_inj z]
        exact ⟨s, sx, rfl, by rw [upd_ne nsd, es, B.non _ e], .inr rfl⟩
      · obtain ⟨x, xx, rfl, hx, fx⟩ := B2.som _ _ hv
        exact ⟨x, xx, rfl, lk_mut (ne_kind hx B2.dic (by intro z; cases hf : f c' <;> (rw [hf] at z; cases z))) hx, .inl fx⟩
    · rw [valV_put] at h1 h2
      have new : ∀ c', valV kvs (kc c') = some (.ref s) → False := fun c' h' => by
        obtain ⟨x, xx, ex, hx, fx⟩ := B1.som _ _ h'
        cases ex
        rw [hx] at ns2
        cases ns2
      split at h1
      · rename_i z1
        split at h2
        · rename_i z2
          rw [kc_inj z1, kc_inj z2]
        · cases h1
          exact (new _ h2).elim
      · split at h2
        · cases h2
          exact (new _ h1).elim
        · exact B.inj _ _ _ h1 h2
    · rcases hx with hx | rfl
      · obtain ⟨o, ho, m⟩ := B2.dom x hx
        by_cases z : x = d
        · exact ⟨_, by rw [z, upd_same], MutO.dT⟩
        · exact ⟨o, lk_mut z ho, m⟩
      · exact ⟨_, by rw [upd_ne nsd, es], MutO.sl⟩
    · rw [valV_put, if_pos rfl]
  | some v =>
    refine g_ifF ?_
    obtain ⟨s, sx, rfl, es, fs⟩ := B1.som _ _ e
    refine g_next ?_
    exact tail H1 kvs Fp s (SameX.of s1) (fun x hx => .inl hx) ep ⟨B1.ins, B1.look, B1.dic, Nat.le_succ_of_le B1.len, B1.fa, B1.fd, B1.non, B1.som, B1.inj, B1.ok, B1.dom⟩ e
  ) only [↓Bx.eq]
end
/-! texts, decisions, nodes -/
/-- whether x is a list of at most m signs -/
inductive SgT (K : PySem.W.Frag) (H : Hp) (m : Nat) : V → Bool → Prop
  | lst {a : Addr} {xs : List V} (e : H a = some (.lst xs)) (l : xs.length ≤ 1000000) (t : ∀ v ∈ xs, TyW K H v) : SgT K H m (.ref a) (decide (xs.length ≤ m) && xs.all (btw 0 255))
  | other {x : V} {tn : String} (t : TyX K H x (.type tn)) (k : kitB tn "list" = some false) : SgT K H m x false
structure TextOk (m : Nat) (ns : List Int) : Prop where
  len : ns.length ≤ m
  all : ∀ z ∈ ns, 0 ≤ z ∧ z ≤ 255
theorem all_ints : ∀ {xs : List V}, xs.all (btw 0 255) = true → ∃ ns : List Int, xs = ns.map V.int ∧ ∀ z ∈ ns, 0 ≤ z ∧ z ≤ 255
  | [], _ => ⟨[], rfl, fun z h => nomatch h⟩
  | x :: xs, h => by
    rw [List.all_cons, Bool.and_eq_true] at h
    obtain ⟨ns, rfl, hn⟩ := all_ints h.2
    obtain ⟨i, rfl, hi⟩ := btw_int h.1
    refine ⟨i :: ns, rfl, fun z hz => ?_⟩
    rcases List.mem_cons.mp hz with rfl | hz
    · exact hi
    · exact hn z hz
theorem SgT.yes {K : PySem.W.Frag} {H : Hp} {m : Nat} {x : V} (h : SgT K H m x true) : ∃ a ns, x = .ref a ∧ H a = some (.lst (ns.map V.int)) ∧ TextOk m ns := by
  generalize hb : true = b at h
  cases h with
  | @lst a xs e l t =>
    have hb := hb.symm
    rw [Bool.and_eq_true, decide_eq_true_iff] at hb
    obtain ⟨ns, rfl, hn⟩ := all_ints hb.2
    exact ⟨a, ns, rfl, e, ⟨by simpa using hb.1, hn⟩⟩
  | other t k => cases hb
theorem SgT.of {K : PySem.W.Frag} {H : Hp} {m : Nat} {a : Addr} {ns : List Int} (e : H a = some (.lst (ns.map V.int))) (t : TextOk m ns) (hm : m ≤ 1000000) : SgT K H m (.ref a) true := by
  have k := SgT.lst (K := K) (m := m) e (by rw [List.length_map]; exact Nat.le_trans t.len hm) (fun v hv => by
    obtain ⟨z, _, rfl⟩ := List.mem_map.mp hv
    exact .int)
  have c : (ns.map V.int).all (btw 0 255) = true := by
    rw [List.all_map]
    refine List.all_eq_true.mpr fun z hz => ?_
    show btw 0 255 (.int z) = true
    rw [btw, decide_eq_true (t.all z hz).1, decide_eq_true (t.all z hz).2]
    rfl
  rw [c, decide_eq_true (by rw [List.length_map]; exact t.len)] at k
  exact k
def F_are_signs (K : PySem.W.Frag) : V → V → Hp → VK → XK → Prop := fun x y H Q _ => ∃ (m : Nat) (b : Bool), y = .int m ∧ SgT K H m x b ∧ ∀ H', Same H H' → Q (.bl b) H'
abbrev sp_are_signs (K : PySem.W.Frag) : Sp := on2 (F_are_signs K)
/-- a checked list of signs: handed on as a new one, or refused by the class C -/
def F_signs (K : PySem.W.Frag) (m : Nat) (C : Str) : V → Hp → VK → XK → Prop := fun x H Q E => ∃ b : Bool, SgT K H m x b ∧ (b = false → ∀ H', Same H H' → E (.ref (He.ga K C)) none H') ∧
  (b = true → ∀ a ns, x = .ref a → H a = some (.lst (ns.map V.int)) → TextOk m ns → ∀ l H', H l = none → Same H H' → H' l = some (.lst (ns.map V.int)) → Q (.ref l) H')
abbrev sp_checked_text (K : PySem.W.Frag) : Sp := on1 (F_signs K 1000 "NoText")
abbrev sp_checked_bytes (K : PySem.W.Frag) : Sp := on1 (F_signs K 12000 "NoBytes")
theorem signs_of' {K : PySem.W.Frag} {m : Nat} {C : Str} {H : Hp} {Q : VK} {E : XK} {a : Addr} {ns : List Int} (e : H a = some (.lst (ns.map V.int))) (t : TextOk m ns) (hm : m ≤ 1000000) (q : ∀ l H', H l = none → Same H H' → H' l = some (.lst (ns.map V.int)) → Q (.ref l) H') : F_signs K m C (.ref a) H Q E := by
  refine ⟨true, SgT.of e t hm, (fun h => nomatch h), fun _ a' ns' ea e' _ => ?_⟩
  cases ea
  have := HO.lst.inj (Option.some.inj (e.symm.trans e'))
  rw [← this]
  exact q
/-! Fo, texts made: str(i) -/
def rStrOf : List V → Hp → VK → Prop := fun xs H Q => ∃ i : Int, xs = [.int i] ∧ i.natAbs.log2 < 1920 ∧ Q (.str (toString i)) H
theorem c_str {X : Cx} : CallR X (.type "str") rStrOf := call_str_int
theorem g_strI {i : Int} {H : Hp} {Q : VK} (h : i.natAbs < 2 ^ 1000) (q : Q (.str (toString i)) H) : rStrOf [.int i] H Q := ⟨i, rfl, by
  by_cases z : i.natAbs = 0
  · rw [z]; decide
  · exact Nat.lt_of_lt_of_le ((Nat.log2_lt z).mpr h) (by decide), q⟩
/-! ### tuples, data that is the same -/
theorem g_sameR {K : PySem.W.Frag} {H : Hp} {Q : VK} {x y : V} {d : PyData} (hx : Dp K H x d) (hy : Dp K H y d) (l : d.canLay0 = true) (n : d.depth ≤ 64) (q : Q (.bl true) H) : rSame K x y H Q := by
  have sh : SeqAt.shaped d = true := by
    unfold SeqAt.shaped
    rw [l, Bool.true_and]
    exact decide_eq_true n
  refine .inr ⟨d, d, hx, hy, sh, sh, ?_⟩
  rw [SeqAt.eqv_refl d l]
  exact q
theorem g_diffR {K : PySem.W.Frag} {H : Hp} {Q : VK} {x y : V} {d : PyData} (hx : Dp K H x d) (hy : Dp K H y d) (l : d.canLay0 = true) (n : d.depth ≤ 64) (q : Q (.bl false) H) : rDiff K x y H Q := by
  have sh : SeqAt.shaped d = true := by
    unfold SeqAt.shaped
    rw [l, Bool.true_and]
    exact decide_eq_true n
  refine .inr ⟨d, d, hx, hy, sh, sh, ?_⟩
  rw [SeqAt.eqv_refl d l]
  exact q
theorem g_sameK {K : PySem.W.Frag} {H : Hp} {Q : VK} {x y : V} {d : PyData} {n : Nat} (hx : Dp K H x d) (hy : Dp K H y d) (o : Okd n d) (hn : n ≤ 64) (q : Q (.bl true) H) : rSame K x y H Q := g_sameR hx hy o.lay (Nat.le_trans o.dp hn) q
theorem g_diffK {K : PySem.W.Frag} {H : Hp} {Q : VK} {x y : V} {d : PyData} {n : Nat} (hx : Dp K H x d) (hy : Dp K H y d) (o : Okd n d) (hn : n ≤ 64) (q : Q (.bl false) H) : rDiff K x y H Q := g_diffR hx hy o.lay (Nat.le_trans o.dp hn) q
theorem ty_non {K : PySem.W.Frag} {H : Hp} : TyW K H .non := .inr (.inr ⟨rfl, "NoneType", .base .non, by decide +kernel⟩)
theorem ty_str {K : PySem.W.Frag} {H : Hp} {z : Str} : TyW K H (.str z) := .inr (.inr ⟨rfl, "str", .base (.str _), by decide +kernel⟩)
theorem ty_bl {K : PySem.W.Frag} {H : Hp} {b : Bool} : TyW K H (.bl b) := .inr (.inl ⟨b, rfl⟩)
theorem ty_lst {K : PySem.W.Frag} {H : Hp} {a : Addr} {xs : List V} (h : H a = some (.lst xs)) : TyW K H (.ref a) := .inr (.inr ⟨rfl, "list", .base (.lst h), by decide +kernel⟩)
theorem ty_tup {K : PySem.W.Frag} {H : Hp} {a : Addr} {xs : List V} (h : H a = some (.tup xs)) : TyW K H (.ref a) := .inr (.inr ⟨rfl, "tuple", .base (.tup h), by decide +kernel⟩)
theorem g_on5 {F : V → V → V → V → V → Hp → VK → XK → Prop} {a b c d e : V} {H : Hp} {Q : VK} {E : XK} (q : F a b c d e H Q E) : on5 F ([a, b, c, d, e] ++ []) H Q E := ⟨a, b, c, d, e, rfl, q⟩

/-- xs.insert(n, y) -/
def rInsert : V → List V → Hp → VK → Prop := fun x vs H Q => ∃ l xs, ∃ (n : Nat) (y : V), x = .ref l ∧ vs = [.int n, y] ∧ H l = some (.lst xs) ∧ xs.length ≤ 100000 ∧ n ≤ 100000 ∧ Q .non (upd H l (.lst (xs.take n ++ [y] ++ xs.drop n)))
theorem m_insert {X : Cx} : MtR X "list.insert" rInsert := fun pins s σ H x xs v us Q I rx rs q => by
  obtain ⟨l, ys, n, y, rfl, rfl, h, h1, h2, q⟩ := q
  exact mt_insert pins s σ H _ _ v us Q I rx rs ⟨l, ys, n, y, rfl, rfl, h, Nat.lt_of_le_of_lt h1 (by decide), by omega, Int.lt_of_le_of_lt (b := 100000) (by omega) (by decide), q⟩
theorem g_insert {l : Addr} {xs : List V} {n : Nat} {y : V} {H : Hp} {Q : VK} (h : H l = some (.lst xs)) (h1 : xs.length ≤ 100000) (h2 : n ≤ 100000) (q : Q .non (upd H l (.lst (xs.take n ++ [y] ++ xs.drop n)))) : rInsert (.ref l) [.int n, y] H Q := ⟨l, xs, n, y, rfl, rfl, h, h1, h2, q⟩
/-! Fo, texts by their lists of signs -/
def Cs (l : List Nat) : Str := ⟨l.toArray⟩
theorem Cs_eta (z : Str) : Cs z.cps.toList = z := by
  cases z
  rfl
theorem Cs_len (l : List Nat) : (Cs l).length = l.length := List.size_toArray
theorem Cs_app (a b : List Nat) : Cs a ++ Cs b = Cs (a ++ b) := by
  show (⟨a.toArray ++ b.toArray⟩ : Str) = ⟨(a ++ b).toArray⟩
  simp
theorem Cs_inj {a b : List Nat} (h : Cs a = Cs b) : a = b := by
  have := congrArg (fun z : Str => z.cps.toList) h
  exact this
theorem Cs_cut (l : List Nat) (lo hi : Option Int) : L2.cutS (Cs l) lo hi = Cs (cutL l lo hi) := by
  unfold L2.cutS cutL
  rw [Cs_len]
  rfl
section
variable {K : PySem.W.Frag} {H : Hp} {Q : VK} {a b l : List Nat} {i : Int} {c : Nat} {lo hi : Option Int}
theorem g_plusC (hl : a.length + b.length ≤ sizeLine) (q : Q (.str (Cs (a ++ b))) H) : rPlus K (.str (Cs a)) (.str (Cs b)) H Q :=
  g_plusS (by rw [Cs_len, Cs_len]; exact hl) (by rw [Cs_app]; exact q)
theorem g_slC (hl : l.length ≤ sizeLine) (q : Q (.str (Cs (cutL l lo hi))) H) : rSlS (.str (Cs l)) lo hi H Q := ⟨Cs l, rfl, by rw [Cs_len]; exact hl, by rw [Cs_cut]; exact q⟩
theorem g_ixC (hl : l.length ≤ sizeLine) (h : atI l i = some c) (q : Q (.str (Cs [c])) H) : rIx K (.str (Cs l)) (.int i) H Q := g_ixS (by rw [Cs_len]; exact hl) h q
theorem g_lenC (hl : l.length ≤ sizeLine) (q : Q (.int (l.length : Int)) H) : rLength K [.str (Cs l)] H Q := g_lenS (by rw [Cs_len]; exact hl) (by rw [Cs_len]; exact q)
end
/-- a text so many times -/
def rMulS : R2 := fun x y H Q => ∃ (z : Str) (k : Nat), x = .str z ∧ y = .int k ∧ z.length * k ≤ 100000 ∧ k ≤ 100000 ∧ Q (.str (Cs (List.replicate k z.cps.toList).flatten)) H
theorem op_mulS {X : Cx} : OpR X (binaryOp .Mult) rMulS := by
  intro pins s σ H x y v u Q I rx ry h
  obtain ⟨z, k, rfl, rfl, hz, hk, q⟩ := h
  obtain ⟨t, rfl⟩ := rx
  obtain ⟨t', rfl⟩ := ry
  have key : ∀ z' : Str, z' = Cs (List.replicate k z.cps.toList).flatten → ∀ t tk, EP X pins σ Q (.str z' t) { s with toks := tk } := fun z' e t tk => by
    subst e
    exact ⟨.str _, H, I.tok _, ⟨_, rfl⟩, q⟩
  have fl : ∀ m : Nat, ((List.replicate m z.cps).foldl (· ++ ·) #[]) = ((List.replicate m z.cps.toList).flatten).toArray := fun m => by
    have g : ∀ (m : Nat) (acc : List Nat), (List.replicate m z.cps).foldl (· ++ ·) acc.toArray = (acc ++ (List.replicate m z.cps.toList).flatten).toArray := by
      intro m
      induction m with
      | zero => intro acc; simp
      | succ m ih =>
        intro acc
        rw [List.replicate_succ, List.foldl_cons, List.replicate_succ, List.flatten_cons]
        have e : acc.toArray ++ z.cps = (acc ++ z.cps.toList).toArray := by
          apply Array.ext'
          simp
        rw [e, ih, List.append_assoc]
    have := g m []
    simpa using this
  have sz : sizeLine = 16777216 := PySem.sizeLine_eq
  have hp : ∀ z' : Str, z' = Cs (List.replicate k z.cps.toList).flatten → z'.length ≤ sizeLine := fun z' e => by
    subst e
    rw [Cs_len, List.length_flatten, List.map_replicate, List.sum_replicate_nat, sz, Array.length_toList]
    show k * z.length ≤ _
    rw [Nat.mul_comm]
    omega
  refine P.mul_str ?_ ?_ ?_ ?_
  · rw [decide_eq_false (by omega), decide_eq_false (by omega)]; rfl
  · intro h1 h2 h3
    have k1 : (1 : Int) ≤ (k : Int) := by omega
    have d1 : (2 ^ 63 - 1 : Int) / (k : Int) * (k : Int) + (2 ^ 63 - 1 : Int) % (k : Int) = 2 ^ 63 - 1 := Int.ediv_mul_add_emod ..
    have d2 := Int.emod_lt_of_pos (2 ^ 63 - 1 : Int) (show (0 : Int) < k by omega)
    have z1 : ((2 ^ 63 - 1 : Int) / (k : Int) + 1) * (k : Int) ≤ (z.length : Int) * (k : Int) := Int.mul_le_mul_of_nonneg_right (by omega) (by omega)
    have z2 : ((z.length : Int) * (k : Int)) = ((z.length * k : Nat) : Int) := by rw [Int.natCast_mul]
    rw [Int.add_mul] at z1
    omega
  · intro _ _
    rw [Int.toNat_natCast]
    unfold Builtin.Str.tooLong
    rw [sz]
    exact decide_eq_false (by omega)
  · by_cases h1 : (k : Int) < 1
    · rw [if_pos h1]
      have k0 : k = 0 := by omega
      have e : Str.empty = Cs (List.replicate k z.cps.toList).flatten := by rw [k0]; rfl
      exact ⟨by rw [e]; exact hp _ rfl, key _ e _ _⟩
    · rw [if_neg h1]
      by_cases h2 : ((k : Int) == 1 || z.length == 0) = true
      · rw [if_pos h2]
        rw [Bool.or_eq_true, beq_iff_eq, beq_iff_eq] at h2
        have e : z = Cs (List.replicate k z.cps.toList).flatten := by
          rcases h2 with h2 | h2
          · have : k = 1 := by omega
            rw [this]
            simp [Cs_eta]
          · have z0 : z.cps.toList = [] := List.length_eq_zero_iff.mp (by rw [Array.length_toList]; exact h2)
            rw [z0, List.flatten_replicate_nil]
            rw [← z0, Cs_eta]
        exact ⟨.str _, H, I, ⟨t, by rw [← e]⟩, q⟩
      · rw [if_neg h2, Int.toNat_natCast]
        have e : (⟨(List.replicate k z.cps).foldl (· ++ ·) #[]⟩ : Str) = Cs (List.replicate k z.cps.toList).flatten := by rw [fl k]; rfl
        exact ⟨hp _ e, key _ e _ _⟩
def rTimes2 : R2 := fun x y H Q => rTimes x y H Q ∨ rMulS x y H Q
theorem o_timesS {X : Cx} : OpR X (binaryOp .Mult) rMulS := op_mulS
theorem g_mulC {H : Hp} {Q : VK} {l : List Nat} {k : Nat} (hl : l.length * k ≤ 100000) (hk : k ≤ 100000) (q : Q (.str (Cs (List.replicate k l).flatten)) H) : rMulS (.str (Cs l)) (.int k) H Q := ⟨Cs l, k, rfl, rfl, by rw [Cs_len]; exact hl, hk, q⟩
/-! ### the small letters -/
def abc : List Nat := (List.range 26).map (97 + ·)
theorem abc_is : ("abcdefghijklmnopqrstuvwxyz" : Str) = Cs abc := by decide +kernel
theorem nil_is : ("" : Str) = Cs [] := by decide +kernel
theorem abc_at {k : Nat} (h : k < 26) : atI abc (k : Int) = some (97 + k) := by
  have : abc[k]? = some (97 + k) := by unfold abc; rw [List.getElem?_map, List.getElem?_range h]; rfl
  unfold atI
  rw [show ixN abc.length (k : Int) = some k from ixN_nat (by rw [show abc.length = 26 from rfl]; exact h)]
  exact this
/-! Fo, slices with a step -/
def pickL {α : Type} (xs : List α) (lo hi : Option Int) (c : Int) : List α := (sliceRange (sliceBounds lo hi (some c) xs.length).1 (sliceBounds lo hi (some c) xs.length).2.1 c).filterMap fun i => xs[i]?
theorem pickL_map {α β : Type} (f : α → β) (xs : List α) (lo hi : Option Int) (c : Int) : pickL (xs.map f) lo hi c = (pickL xs lo hi c).map f := by
  unfold pickL
  rw [List.length_map, List.map_filterMap]
  congr 1
  funext i
  rw [List.getElem?_map]
theorem pickL_sub {α : Type} {xs : List α} {lo hi : Option Int} {c : Int} {x : α} (h : x ∈ pickL xs lo hi c) : x ∈ xs := by
  obtain ⟨i, _, e⟩ := List.mem_filterMap.mp h
  exact List.mem_of_getElem? e
theorem pickL_len {α : Type} (xs : List α) (lo hi : Option Int) (c : Int) : (pickL xs lo hi c).length ≤ xs.length := by
  unfold pickL
  refine Nat.le_trans (List.length_filterMap_le ..) (sliceRange_length_le _ _ _ _ (fun h => ?_) fun h => ?_)
  · unfold sliceBounds
    rw [show (some c).getD 1 = c from rfl]
    cases lo <;> cases hi <;> simp only [if_pos h] <;> omega
  · unfold sliceBounds
    rw [show (some c).getD 1 = c from rfl]
    cases lo <;> cases hi <;> simp only [if_neg h] <;> omega
theorem vals_pick {us : List Value} {xs : List V} (r : Vals xs us) : ∀ is : List Nat, Vals (is.filterMap fun i => xs[i]?) (is.filterMap fun i => us.toArray[i]?)
  | [] => .nil
  | i :: is => by
    have ih := vals_pick r is
    cases e : xs[i]? with
    | none =>
      have e2 := r.none_of e
      rw [List.filterMap_cons, List.filterMap_cons, e]
      simp only [List.getElem?_toArray, e2]
      simpa using ih
    | some x =>
      obtain ⟨u, hu, ru⟩ := r.get e
      rw [List.filterMap_cons, List.filterMap_cons, e]
      simp only [List.getElem?_toArray, hu]
      exact .cons ru (by simpa using ih)
def tSlS (K : PySem.W.Frag) (te : TE) (tl th ts : TO) : TE := fun σ H Q => te σ H fun x H1 => tl σ H1 fun l H2 => th σ H2 fun u H3 => ts σ H3 fun o H4 => ∃ (c : Int) (a : Addr) (xs : List V), o = some c ∧ c ≠ 0 ∧ x = .ref a ∧ SqL K H4 a xs ∧ ∀ p, H4 p = none → Q (.ref p) (upd H4 p (.lst (pickL xs l u c)))
section
variable {X : Cx} {e est : Expr} {lo hi : Option Expr} {te : TE} {tl th ts : TO} {p2 pos : Pos}
theorem pe_slS (he : PE X e te) (hl : PO X lo tl) (hu : PO X hi th) (hst : PO X (some est) ts) (tail : ∀ a b : Addr, subscripted (.Slice lo hi (some est) p2) false (.ref a) (.ref b) = operate [.ref a, .ref b] (getItem (.ref a) (.ref b)) := by intro _ _; with_unfolding_all rfl) : PE X (.Subscript e (.Slice lo hi (some est) p2) pos) (tSlS X.K te tl th ts) := by
  constructor
  intro pins s σ H Q I h
  refine Subscript_ (thn (he.run pins s σ H _ I h) fun v s1 ⟨x, H1, I1, r1, q1⟩ => ?_)
  refine wpAny_Slice (thn (hl.run pins s1 σ H1 _ I1 q1) fun vl s2 ⟨l, H2, I2, pl, q2⟩ => ?_)
  refine thn (hu.run pins s2 σ H2 _ I2 q2) fun vu s3 ⟨u, H3, I3, pu, q3⟩ => ?_
  refine thn (hst.run pins s3 σ H3 _ I3 q3) fun vs s4 ⟨o, H4, I4, ps, c, a, xs, eo, hc, ex, hx, q⟩ => ?_
  subst eo ex
  cases r1
  have up : ∀ b ob, s4.heap.get? b = some ob → (s4.heap.push { cls := .type "slice", data := .fields #[vl, vu, vs] }).get? b = some ob := fun b ob z => Heap.get?_push_of_some _ z
  have I5 : Inv X pins σ H4 { s4 with heap := s4.heap.push { cls := .type "slice", data := .fields #[vl, vu, vs] } } := I4.kept (t' := s4.toks) up
  obtain ⟨its, r, ht, hz⟩ := I5.list hx
  have hlen : its.toArray.size = xs.length := by rw [List.size_toArray]; exact r.length.symm
  show wpAny (model X.prog X.w) X.A (subscriptTail e (.Slice lo hi (some est) p2) (.ref a) (.ref s4.heap.objs.size)) _ X.xe _
  refine tail_any (ops := [.ref a, .ref s4.heap.objs.size]) ht.isList.typeIs (PySem.slot_list_getitem.lookup) ?_ (tail _ _)
  refine wpAny_getItem_list_slice ht.isList (Heap.IsSliceOf.new _ vl vu vs) pl pu ps (fun z => hc (Option.some.inj z)) ?_ (by rw [hlen]; exact hz)
  refine ⟨.ref _, _, I5.laid (t' := s4.toks) (o := .lst (pickL xs l u c)) (fun b ob z => Heap.get?_push_of_some _ z) (Nat.le_refl _) ?_, rfl, q _ (I5.hok.fresh (Nat.le_refl _))⟩
  have e1 : slicePick its.toArray l u (some c) = (((sliceRange (sliceBounds l u (some c) xs.length).1 (sliceBounds l u (some c) xs.length).2.1 c).filterMap fun i => its.toArray[i]?)).toArray := by
    unfold slicePick
    rw [hlen]
    rfl
  exact ⟨Nat.le_trans (pickL_len ..) hz, _, 0, vals_pick r _, by rw [e1]; exact Heap.get?_push_size _ rfl⟩
end
section
variable {K : PySem.W.Frag} {σ : St} {H : Hp} {Q : VK} {te : TE} {tl th ts : TO}
theorem g_slS (q : te σ H fun x H1 => tl σ H1 fun l H2 => th σ H2 fun u H3 => ts σ H3 fun o H4 => ∃ (c : Int) (a : Addr) (xs : List V), o = some c ∧ c ≠ 0 ∧ x = .ref a ∧ SqL K H4 a xs ∧ ∀ p, H4 p = none → Q (.ref p) (upd H4 p (.lst (pickL xs l u c)))) : tSlS K te tl th ts σ H Q := q
theorem sl_pick {l u : Option Int} {c : Int} {a : Addr} {xs : List V} (hc : c ≠ 0) (hx : SqL K H a xs) (q : ∀ p, H p = none → Q (.ref p) (upd H p (.lst (pickL xs l u c)))) : ∃ (c' : Int) (a' : Addr) (xs : List V), some c = some c' ∧ c' ≠ 0 ∧ V.ref a = .ref a' ∧ SqL K H a' xs ∧ ∀ p, H p = none → Q (.ref p) (upd H p (.lst (pickL xs l u c'))) := ⟨c, a, xs, rfl, hc, rfl, hx, q⟩
end
/-! k17: the law's own slots -/
structure St5 where
  n : Int
  o : Int
  h : Int
  b : Int
  l : Int
def st5 : St5 := ⟨0, 0, 8388608, 0, 0⟩
def St5.vs (s : St5) : List Int := [s.n, s.o, s.h, s.b, s.l]
structure Ok5 (s : St5) : Prop where
  n0 : 0 ≤ s.n
  o0 : 0 ≤ s.o
  no : s.n + s.o ≤ 255
  h0 : 32768 ≤ s.h
  h1 : s.h ≤ 16744448
  b0 : 0 ≤ s.b
  b1 : s.b ≤ 1
  l0 : 0 ≤ s.l
  l1 : s.l ≤ 255
theorem ok_st5 : Ok5 st5 := by constructor <;> decide
def step5 (s : St5) (b : Int) : St5 :=
  ⟨if (s.n + 1 - b) + (s.o + b) > 255 then (s.n + 1 - b + 1) / 2 else s.n + 1 - b, if (s.n + 1 - b) + (s.o + b) > 255 then (s.o + b + 1) / 2 else s.o + b, quickS s.h b, b, if s.l > 0 ∧ s.b = b then (if 255 < s.l + 1 then 255 else s.l + 1) else 1⟩
theorem Ok5.step {s : St5} {b : Int} (h : Ok5 s) (b0 : 0 ≤ b) (b1 : b ≤ 1) : Ok5 (step5 s b) := by
  obtain ⟨h1, h2, h3, h4, h5, h6, h7, h8, h9⟩ := h
  have q := capQ_ok (if b = 1 then s.h + (16777216 - s.h) / 16 else s.h - s.h / 16)
  refine ⟨?_, ?_, ?_, q.1, q.2, b0, b1, ?_, ?_⟩
  all_goals
    unfold step5
    dsimp only
    (repeat' split) <;> omega
def sl5 (kind : Str) (s : St5) : Sl := if kind = "even" then .even s.n s.o else if kind = "quick" then .quick s.h else .run s.b s.l
theorem sl5_new (kind : Str) : sl5 kind st5 = new0 kind := rfl
theorem sl5_step {kind : Str} {s : St5} {b : Int} (h : Ok5 s) (b0 : 0 ≤ b) (b1 : b ≤ 1) : seenS (sl5 kind s) b = sl5 kind (step5 s b) := by
  obtain ⟨h1, h2, h3, h4, h5, h6, h7, h8, h9⟩ := h
  unfold sl5
  split
  · rw [seenS_even]
    unfold evenS step5
    have e : b = 0 ∨ b = 1 := by omega
    rcases e with rfl | rfl
    · rw [if_neg (by decide)]
      simp only [Int.sub_zero, Int.add_zero]
      split <;> rfl
    · rw [if_pos rfl]
      simp only [show s.n + 1 - 1 = s.n by omega]
      split <;> rfl
  · split
    · rfl
    · rw [seenS_run]
      show _ = Sl.run b (if s.l > 0 ∧ s.b = b then (if 255 < s.l + 1 then 255 else s.l + 1) else 1)
      by_cases e : b = s.b
      · rw [if_pos e, e]
        by_cases c : s.l > 0
        · rw [if_pos (c := s.l > 0 ∧ s.b = s.b) ⟨c, rfl⟩]
        · rw [if_neg (c := s.l > 0 ∧ s.b = s.b) (fun z => c z.1), show s.l = 0 by omega]
          rfl
      · rw [if_neg e, if_neg (c := s.l > 0 ∧ s.b = b) (fun z => e z.2.symm)]
theorem take_replicate_len {α : Type} (xs : List α) (k : Nat) : (xs.take k).length ≤ k := by rw [List.length_take]; omega
theorem ctx_ix {ns : List Int} {z : Int} (h1 : 1 ≤ z) (h8 : z ≤ 8) : atI ((List.replicate 8 256 ++ ns).map V.int) (((8 + ns.length : Nat) : Int) - z) = some (.int (ctxAt ns z)) := by
  obtain ⟨k, hk⟩ : ∃ k : Nat, z = (k : Int) := ⟨z.toNat, by omega⟩
  subst hk
  rw [show (((8 + ns.length : Nat) : Int) - (k : Int)) = ((8 + ns.length - k : Nat) : Int) by omega]
  refine atI_nat ?_
  rw [List.getElem?_map]
  unfold ctxAt
  by_cases c : (k : Int) ≤ (ns.length : Int)
  · rw [if_pos c, List.getElem?_append_right (by rw [List.length_replicate]; omega), List.length_replicate, Int.toNat_natCast, show 8 + ns.length - k - 8 = ns.length - k by omega, List.getElem?_eq_getElem (by omega), List.getD_eq_getElem?_getD, List.getElem?_eq_getElem (by omega)]
    rfl
  · rw [if_neg c, List.getElem?_append_left (by rw [List.length_replicate]; omega), List.getElem?_replicate, if_pos (by omega)]
    rfl
/-- decisions, each a tuple of the signs ahead, the node and the bit -/
def DecH (H : Hp) (v : V) : Prop := ∃ (t c : Addr) (ns : List Int) (node bit : Int), v = .ref t ∧ H t = some (.tup [.ref c, .int node, .int bit]) ∧ H c = some (.lst (ns.map V.int)) ∧ ns.length ≤ 60 ∧ 0 ≤ bit ∧ bit ≤ 1
theorem DecH.same {H H1 : Hp} {v : V} (h : DecH H v) (s : Same H H1) : DecH H1 v := by
  obtain ⟨t, c, ns, node, bit, e, h1, h2, l, b0, b1⟩ := h
  exact ⟨t, c, ns, node, bit, e, s _ _ h1, s _ _ h2, l, b0, b1⟩
section
variable (K : PySem.W.Frag)
def F_Lcell17 (K : PySem.W.Frag) : V → V → Hp → VK → XK → Prop := fun x y H Q _ => ∃ (a : Addr) (ns : List Int) (k : Int), x = .ref a ∧ y = .int k ∧ 0 ≤ k ∧ SqL K H a (ns.map V.int) ∧ ∀ v : Int, Q (.int v) H
abbrev sp_Lcell17 (K : PySem.W.Frag) : Sp := on2 (F_Lcell17 K)
def t_Lcell17 (K : PySem.W.Frag) (E : XK) : TS :=
  tSeq (tIfS (tTest (tOp (iLt) (tVar 1) (tCB (rLength K) (tCons (tVar 0) (tNil))))) (tRet (tOp (rIx K) (tVar 0) (tVar 1))) (tNext))
  (tRet (tC (.int 0)))
theorem pure_Lcell17 {x y : V} {H : Hp} {Q : VK} {E : XK} (h : F_Lcell17 K x y H Q E) : t_Lcell17 K E ⟨fun _ H' => Q .non H', Q, fun _ _ => False, fun _ _ => False⟩ [some x, some y] H := by
  refine Bx.out ?_
  simp (disch := with_unfolding_all
  obtain ⟨a, ns, k, rfl, rfl, hk, hs, q⟩ := h
  unfold t_Lcell17
  walk_at "go"
  rw [List.length_map]
  refine dif (fun h => ?_) fun h => ?_
  · walk_at "go"
    have e : k = ((k.toNat : Nat) : Int) := by omega
    rw [e]
    exact g_ixL hs (ix_ints (by omega)) (q _)
  · walk_at "go"
    exact q _
  ) only [↓Bx.eq]
def F_Lplaces (K : PySem.W.Frag) : V → Hp → VK → XK → Prop := fun x H Q _ => ∃ n : Int, x = .int n ∧ ∀ p H' ps, Plc ps → H p = none → Same H H' → H' p = some (.lst (ps.map V.int)) → Q (.ref p) H'
abbrev sp_Lplaces (K : PySem.W.Frag) : Sp := on1 (F_Lplaces K)
def t_Lplaces (K : PySem.W.Frag) (E : XK) : TS :=
  tSeq (tAsg (tLst (tNil)) (gName 1))
  (tSeq (tFor (iRng2 (tCons (tC (.int 1)) (tCons (tC (.int 9)) (tNil)))) (gName 2) (tSeq (tIfS (tAnd (tTest (tOp (rSame K) (tOp (rRest) (tVar 0) (tC (.int 2))) (tC (.int 1)))) (tTest (tOp (iLt) (tCB (rLength K) (tCons (tVar 1) (tNil))) (tC (.int 4))))) (tDrop (tBM K "list" (rAppend) (tVar 1) (tCons (tVar 2) (tNil)))) (tNext))
  (tAsg (tOp (rFloor) (tVar 0) (tC (.int 2))) (gName 0))))
  (tRet (tVar 1)))
theorem pure_Lplaces {x : V} {H : Hp} {Q : VK} {E : XK} (h : F_Lplaces K x H Q E) : t_Lplaces K E ⟨fun _ H' => Q .non H', Q, fun _ _ => False, fun _ _ => False⟩ [some x, none, none] H := by
  refine Bx.out ?_
  simp (disch := with_unfolding_all
  obtain ⟨n, rfl, q⟩ := h
  unfold t_Lplaces
  walk_at "go"
  intro l hl
  walk_at "go"
  refine for_R2 (k := 8) (by decide) (by decide) (fun i σ H1 => ∃ m y ps, σ = [some (.int m), some (.ref l), y] ∧ Same H H1 ∧ H1 l = some (.lst (ps.map V.int)) ∧ Plc ps ∧ ∀ z ∈ ps, z ≤ i) ?_ ?_ ?_
  · exact ⟨n, none, [], rfl, same_new (Same.refl _) hl, upd_same, ⟨by decide, (fun z hz => nomatch hz), List.Pairwise.nil⟩, (fun z hz => nomatch hz)⟩
  · rintro i σ H1 hi ⟨m, y, ps, rfl, s, e, P, le⟩
    walk_at "go"
    have hb := P.len
    refine dif (fun h1 => ?_) (fun h1 => ?_)
    · walk_at "go"
      rw [List.length_map]
      refine dif (fun h2 => ?_) (fun h2 => ?_)
      · walk_at "go"
        refine ⟨_, _, ps ++ [1 + (i : Int)], rfl, same_mut s hl, by rw [upd_same, List.map_append]; rfl, ⟨by rw [List.length_append]; simp only [List.length_cons, List.length_nil]; omega, fun z hz => ?_, ?_⟩, fun z hz => ?_⟩
        · rcases List.mem_append.mp hz with hz | hz
          · exact P.all z hz
          · have := List.mem_singleton.mp hz; omega
        · refine List.pairwise_append.mpr ⟨P.up, List.pairwise_singleton _ _, fun u hu v hv => ?_⟩
          have := List.mem_singleton.mp hv
          have := le u hu
          omega
        · rcases List.mem_append.mp hz with hz | hz
          · have := le z hz; omega
          · have := List.mem_singleton.mp hz; omega
      · walk_at "go"
        exact ⟨_, _, ps, rfl, s, e, P, fun z hz => by have := le z hz; omega⟩
    · walk_at "go"
      exact ⟨_, _, ps, rfl, s, e, P, fun z hz => by have := le z hz; omega⟩
  · rintro σ H1 ⟨m, y, ps, rfl, s, e, P, le⟩
    walk_at "go"
    exact q l _ ps P hl s e
  ) only [↓Bx.eq]
def F_Llook (K : PySem.W.Frag) : V → Hp → VK → XK → Prop := fun x H Q _ => ∃ n : Int, x = .int n ∧ ∀ l k H', LkOk k → H l = none → Same H H' → LookH H' l k → Q (.ref l) H'
abbrev sp_Llook (K : PySem.W.Frag) : Sp := on1 (F_Llook K)
def t_Llook (K : PySem.W.Frag) (E : XK) : TS :=
  tSeq (tAsg (tFun (sp_Lplaces K) [] (fun _ => E) (tCons (tOp (rIx K) (tLst (tCons (tOp (rRest) (tOp (rFloor) (tVar 0) (tC (.int 3))) (tC (.int 256))) (tCons (tOp (rRest) (tOp (rFloor) (tVar 0) (tC (.int 3))) (tC (.int 2))) (tCons (tC (.int 0)) (tCons (tOp (rPlus K) (tC (.int 1)) (tOp (rRest) (tOp (rFloor) (tVar 0) (tC (.int 3))) (tC (.int 8)))) (tNil)))))) (tOp (rRest) (tOp (rFloor) (tVar 0) (tC (.int 768))) (tC (.int 4)))) (tNil))) (gName 1))
  (tRet (tTup (tCons (tOp (rIx K) (tLst (tCons (tC (.str "even")) (tCons (tC (.str "quick")) (tCons (tC (.str "run")) (tNil))))) (tOp (rRest) (tVar 0) (tC (.int 3)))) (tCons (tCB (rTupleOf K) (tCons (tVar 1) (tNil))) (tNil)))))
theorem pure_Llook {x : V} {H : Hp} {Q : VK} {E : XK} (h : F_Llook K x H Q E) : t_Llook K E ⟨fun _ H' => Q .non H', Q, fun _ _ => False, fun _ _ => False⟩ [some x, none] H := by
  refine Bx.out ?_
  simp (disch := with_unfolding_all
  obtain ⟨n, rfl, q⟩ := h
  unfold t_Llook
  walk_at "gn"
  rename_i d nd
  obtain ⟨w, hw⟩ : ∃ w : Int, atI [V.int (n / 3 % 256), .int (n / 3 % 2), .int 0, .int (1 + n / 3 % 8)] (n / 768 % 4) = some (.int w) := by
    have : n / 768 % 4 = 0 ∨ n / 768 % 4 = 1 ∨ n / 768 % 4 = 2 ∨ n / 768 % 4 = 3 := by omega
    rcases this with e | e | e | e <;> rw [e] <;> exact ⟨_, rfl⟩
  have s1 := same_new (u := .lst [V.int (n / 3 % 256), .int (n / 3 % 2), .int 0, .int (1 + n / 3 % 8)]) (Same.refl H) nd
  refine g_ixL (sq_of upd_same) hw ?_
  generalize upd H d (.lst [V.int (n / 3 % 256), .int (n / 3 % 2), .int 0, .int (1 + n / 3 % 8)]) = H1 at s1 ⊢
  walk_at "gn"
  refine ⟨w, rfl, fun p H2 ps P np s2 ep => ?_⟩
  walk_at "gn"
  rename_i kl nkl
  have hk : ∃ kd : Str, atI [V.str "even", .str "quick", .str "run"] (n % 3) = some (.str kd) ∧ (kd = "even" ∨ kd = "quick" ∨ kd = "run") := by
    have : n % 3 = 0 ∨ n % 3 = 1 ∨ n % 3 = 2 := by omega
    rcases this with e | e | e <;> rw [e]
    · exact ⟨_, rfl, .inl rfl⟩
    · exact ⟨_, rfl, .inr (.inl rfl)⟩
    · exact ⟨_, rfl, .inr (.inr rfl)⟩
  obtain ⟨kd, hkd, kok⟩ := hk
  have s3 := same_new (u := .lst [V.str "even", .str "quick", .str "run"]) (Same.refl H2) nkl
  refine g_ixL (sq_of upd_same) hkd ?_
  have ep3 := s3 _ _ ep
  generalize upd H2 kl (.lst [V.str "even", .str "quick", .str "run"]) = H3 at s3 ep3 ⊢
  walk_at "gn"
  rename_i b nb t nt
  have S3 := Same.trans s1 (Same.trans s2 s3)
  have s5 := same_new (u := .tup [.str kd, .ref b]) (same_new (u := .tup (ps.map V.int)) (Same.refl H3) nb) nt
  exact q t (kd, ps) _ ⟨kok, P⟩ (S3.free (Same.free (same_new (u := .tup (ps.map V.int)) (Same.refl H3) nb) nt)) (Same.trans S3 s5) ⟨b, upd_same, lk_new upd_same nt⟩
  ) only [↓Bx.eq]
def F_Lseen (K : PySem.W.Frag) : V → V → Hp → VK → XK → Prop := fun x y H Q _ => ∃ (a : Addr) (s : St5) (b : Int), x = .ref a ∧ y = .int b ∧ 0 ≤ b ∧ b ≤ 1 ∧ Ok5 s ∧ H a = some (.lst (s.vs.map V.int)) ∧ ∀ l H', H l = none → Same H H' → H' l = some (.lst ((step5 s b).vs.map V.int)) → Q (.ref l) H'
abbrev sp_Lseen (K : PySem.W.Frag) : Sp := on2 (F_Lseen K)
def t_Lseen (K : PySem.W.Frag) (E : XK) : TS :=
  tSeq (tAsg (tLst (tCons (tOp (rMinus) (tOp (rPlus K) (tOp (rIx K) (tVar 0) (tC (.int 0))) (tC (.int 1))) (tVar 1)) (tCons (tOp (rPlus K) (tOp (rIx K) (tVar 0) (tC (.int 1))) (tVar 1)) (tNil)))) (gName 2))
  (tSeq (tIfS (tTest (tOp (iGt) (tOp (rPlus K) (tOp (rIx K) (tVar 2) (tC (.int 0))) (tOp (rIx K) (tVar 2) (tC (.int 1)))) (tC (.int 255)))) (tAsg (tLst (tCons (tOp (rFloor) (tOp (rPlus K) (tOp (rIx K) (tVar 2) (tC (.int 0))) (tC (.int 1))) (tC (.int 2))) (tCons (tOp (rFloor) (tOp (rPlus K) (tOp (rIx K) (tVar 2) (tC (.int 1))) (tC (.int 1))) (tC (.int 2))) (tNil)))) (gName 2)) (tNext))
  (tSeq (tAsg (tOp (rMinus) (tOp (rIx K) (tVar 0) (tC (.int 2))) (tOp (rFloor) (tOp (rIx K) (tVar 0) (tC (.int 2))) (tC (.int 16)))) (gName 3))
  (tSeq (tIfS (tTest (tOp (rSame K) (tVar 1) (tC (.int 1)))) (tAsg (tOp (rPlus K) (tOp (rIx K) (tVar 0) (tC (.int 2))) (tOp (rFloor) (tOp (rMinus) (tC (.int 16777216)) (tOp (rIx K) (tVar 0) (tC (.int 2)))) (tC (.int 16)))) (gName 3)) (tNext))
  (tSeq (tAsg (tC (.int 1)) (gName 4))
  (tSeq (tIfS (tAnd (tTest (tOp (iGt) (tOp (rIx K) (tVar 0) (tC (.int 4))) (tC (.int 0)))) (tTest (tOp (rSame K) (tOp (rIx K) (tVar 0) (tC (.int 3))) (tVar 1)))) (tAsg (tCB (rLeast K) (tCons (tC (.int 255)) (tCons (tOp (rPlus K) (tOp (rIx K) (tVar 0) (tC (.int 4))) (tC (.int 1))) (tNil)))) (gName 4)) (tNext))
  (tRet (tOp (rPlus K) (tVar 2) (tLst (tCons (tCB (rLeast K) (tCons (tOp (rMinus) (tC (.int 16777216)) (tC (.int 32768))) (tCons (tCB (rGreatest K) (tCons (tC (.int 32768)) (tCons (tVar 3) (tNil)))) (tNil)))) (tCons (tVar 1) (tCons (tVar 4) (tNil))))))))))))
theorem seen6 {a c : Addr} {s : St5} {b u v hh ll : Int} {H H2 : Hp} {Q : VK} {E : XK} (q : ∀ l H', H l = none → Same H H' → H' l = some (.lst ((step5 s b).vs.map V.int)) → Q (.ref l) H') (s2 : Same H H2) (ec : H2 c = some (.lst (([u, v] : List Int).map V.int))) (eu : u = (step5 s b).n) (ev : v = (step5 s b).o) (eh : hh = (if b = 1 then s.h + (16777216 - s.h) / 16 else s.h - s.h / 16)) (el : ll = (step5 s b).l) :
    tRet (tOp (rPlus K) (tVar 2) (tLst (tCons (tCB (rLeast K) (tCons (tOp (rMinus) (tC (.int 16777216)) (tC (.int 32768))) (tCons (tCB (rGreatest K) (tCons (tC (.int 32768)) (tCons (tVar 3) (tNil)))) (tNil)))) (tCons (tVar 1) (tCons (tVar 4) (tNil)))))) ⟨fun _ H' => Q .non H', Q, fun _ _ => False, fun _ _ => False⟩ [some (.ref a), some (.int b), some (.ref c), some (.int hh), some (.int ll)] H2 := by
  refine Bx.out ?_
  simp (disch := with_unfolding_all
  walk_at "gn"
  rename_i r1 n1 r2 n2
  have ecap : (if (if hh > 32768 then hh else 32768) < 16777216 - 32768 then (if hh > 32768 then hh else 32768) else 16777216 - 32768) = (step5 s b).h := by
    show _ = capQ (if b = 1 then s.h + (16777216 - s.h) / 16 else s.h - s.h / 16)
    rw [← eh]
    unfold capQ
    (repeat' split) <;> omega
  refine q r2 _ (s2.free (Same.free (same_new (Same.refl H2) n1) n2)) (same_new (same_new s2 n1) n2) ?_
  rw [upd_same, eu, ev, ecap, el]
  rfl
  ) only [↓Bx.eq]
theorem seen4 {a c : Addr} {s : St5} {b u v hh : Int} {H H2 : Hp} {Q : VK} {E : XK} (ea : H a = some (.lst [.int s.n, .int s.o, .int s.h, .int s.b, .int s.l])) (q : ∀ l H', H l = none → Same H H' → H' l = some (.lst ((step5 s b).vs.map V.int)) → Q (.ref l) H') (s2 : Same H H2) (ec : H2 c = some (.lst (([u, v] : List Int).map V.int))) (eu : u = (step5 s b).n) (ev : v = (step5 s b).o) (eh : hh = (if b = 1 then s.h + (16777216 - s.h) / 16 else s.h - s.h / 16)) :
    tSeq (tAsg (tC (.int 1)) (gName 4)) (tSeq (tIfS (tAnd (tTest (tOp (iGt) (tOp (rIx K) (tVar 0) (tC (.int 4))) (tC (.int 0)))) (tTest (tOp (rSame K) (tOp (rIx K) (tVar 0) (tC (.int 3))) (tVar 1)))) (tAsg (tCB (rLeast K) (tCons (tC (.int 255)) (tCons (tOp (rPlus K) (tOp (rIx K) (tVar 0) (tC (.int 4))) (tC (.int 1))) (tNil)))) (gName 4)) (tNext)) (tRet (tOp (rPlus K) (tVar 2) (tLst (tCons (tCB (rLeast K) (tCons (tOp (rMinus) (tC (.int 16777216)) (tC (.int 32768))) (tCons (tCB (rGreatest K) (tCons (tC (.int 32768)) (tCons (tVar 3) (tNil)))) (tNil)))) (tCons (tVar 1) (tCons (tVar 4) (tNil)))))))) ⟨fun _ H' => Q .non H', Q, fun _ _ => False, fun _ _ => False⟩ [some (.ref a), some (.int b), some (.ref c), some (.int hh), none] H2 := by
  refine Bx.out ?_
  simp (disch := with_unfolding_all
  have i4 : atI [V.int s.n, .int s.o, .int s.h, .int s.b, .int s.l] 4 = some (.int s.l) := rfl
  have ea2 := s2 _ _ ea
  have tail := fun ll => seen6 (K := K) (a := a) (c := c) (ll := ll) (E := E) q s2 ec eu ev eh
  generalize (tRet (tOp (rPlus K) (tVar 2) (tLst (tCons (tCB (rLeast K) (tCons (tOp (rMinus) (tC (.int 16777216)) (tC (.int 32768))) (tCons (tCB (rGreatest K) (tCons (tC (.int 32768)) (tCons (tVar 3) (tNil)))) (tNil)))) (tCons (tVar 1) (tCons (tVar 4) (tNil))))))) = R6 at tail ⊢
  walk_at "gn"
  refine dif (fun c1 => ?_) fun c1 => ?_
  · walk_at "gn"
    refine dif (fun c2 => ?_) fun c2 => ?_
    · walk_at "gn"
      refine tail _ ?_
      show _ = (if s.l > 0 ∧ s.b = b then (if 255 < s.l + 1 then 255 else s.l + 1) else 1)
      rw [if_pos (c := s.l > 0 ∧ s.b = b) ⟨c1, c2⟩]
      (repeat' split) <;> omega
    · walk_at "gn"
      refine tail _ ?_
      show _ = (if s.l > 0 ∧ s.b = b then (if 255 < s.l + 1 then 255 else s.l + 1) else 1)
      rw [if_neg (c := s.l > 0 ∧ s.b = b) (fun z => c2 z.2)]
  · walk_at "gn"
    refine tail _ ?_
    show _ = (if s.l > 0 ∧ s.b = b then (if 255 < s.l + 1 then 255 else s.l + 1) else 1)
    rw [if_neg (c := s.l > 0 ∧ s.b = b) (fun z => c1 z.1)]
  ) only [↓Bx.eq]
theorem seen2 {a c : Addr} {s : St5} {b u v : Int} {H H2 : Hp} {Q : VK} {E : XK} (ea : H a = some (.lst [.int s.n, .int s.o, .int s.h, .int s.b, .int s.l])) (q : ∀ l H', H l = none → Same H H' → H' l = some (.lst ((step5 s b).vs.map V.int)) → Q (.ref l) H') (s2 : Same H H2) (ec : H2 c = some (.lst (([u, v] : List Int).map V.int))) (eu : u = (step5 s b).n) (ev : v = (step5 s b).o) :
    tSeq (tAsg (tOp (rMinus) (tOp (rIx K) (tVar 0) (tC (.int 2))) (tOp (rFloor) (tOp (rIx K) (tVar 0) (tC (.int 2))) (tC (.int 16)))) (gName 3)) (tSeq (tIfS (tTest (tOp (rSame K) (tVar 1) (tC (.int 1)))) (tAsg (tOp (rPlus K) (tOp (rIx K) (tVar 0) (tC (.int 2))) (tOp (rFloor) (tOp (rMinus) (tC (.int 16777216)) (tOp (rIx K) (tVar 0) (tC (.int 2)))) (tC (.int 16)))) (gName 3)) (tNext)) (tSeq (tAsg (tC (.int 1)) (gName 4)) (tSeq (tIfS (tAnd (tTest (tOp (iGt) (tOp (rIx K) (tVar 0) (tC (.int 4))) (tC (.int 0)))) (tTest (tOp (rSame K) (tOp (rIx K) (tVar 0) (tC (.int 3))) (tVar 1)))) (tAsg (tCB (rLeast K) (tCons (tC (.int 255)) (tCons (tOp (rPlus K) (tOp (rIx K) (tVar 0) (tC (.int 4))) (tC (.int 1))) (tNil)))) (gName 4)) (tNext)) (tRet (tOp (rPlus K) (tVar 2) (tLst (tCons (tCB (rLeast K) (tCons (tOp (rMinus) (tC (.int 16777216)) (tC (.int 32768))) (tCons (tCB (rGreatest K) (tCons (tC (.int 32768)) (tCons (tVar 3) (tNil)))) (tNil)))) (tCons (tVar 1) (tCons (tVar 4) (tNil)))))))))) ⟨fun _ H' => Q .non H', Q, fun _ _ => False, fun _ _ => False⟩ [some (.ref a), some (.int b), some (.ref c), none, none] H2 := by
  refine Bx.out ?_
  simp (disch := with_unfolding_all
  have ea2 := s2 _ _ ea
  have tail := fun hh => seen4 (K := K) (a := a) (c := c) (hh := hh) (E := E) ea q s2 ec eu ev
  generalize (tSeq (tAsg (tC (.int 1)) (gName 4)) (tSeq (tIfS (tAnd (tTest (tOp (iGt) (tOp (rIx K) (tVar 0) (tC (.int 4))) (tC (.int 0)))) (tTest (tOp (rSame K) (tOp (rIx K) (tVar 0) (tC (.int 3))) (tVar 1)))) (tAsg (tCB (rLeast K) (tCons (tC (.int 255)) (tCons (tOp (rPlus K) (tOp (rIx K) (tVar 0) (tC (.int 4))) (tC (.int 1))) (tNil)))) (gName 4)) (tNext)) (tRet (tOp (rPlus K) (tVar 2) (tLst (tCons (tCB (rLeast K) (tCons (tOp (rMinus) (tC (.int 16777216)) (tC (.int 32768))) (tCons (tCB (rGreatest K) (tCons (tC (.int 32768)) (tCons (tVar 3) (tNil)))) (tNil)))) (tCons (tVar 1) (tCons (tVar 4) (tNil))))))))) = R4 at tail ⊢
  walk_at "gn"
  refine dif (fun c1 => ?_) fun c1 => ?_
  · walk_at "gn"
    exact tail _ (if_pos c1).symm
  · walk_at "gn"
    exact tail _ (if_neg c1).symm
  ) only [↓Bx.eq]
theorem pure_Lseen {x y : V} {H : Hp} {Q : VK} {E : XK} (h : F_Lseen K x y H Q E) : t_Lseen K E ⟨fun _ H' => Q .non H', Q, fun _ _ => False, fun _ _ => False⟩ [some x, some y, none, none, none] H := by
  refine Bx.out ?_
  simp (disch := with_unfolding_all
  obtain ⟨a, s, b, rfl, rfl, b0, b1, ok, ea, q⟩ := h
  have ea : H a = some (.lst [.int s.n, .int s.o, .int s.h, .int s.b, .int s.l]) := ea
  unfold t_Lseen
  have tail := fun {c : Addr} {u v : Int} {H2 : Hp} => seen2 (K := K) (a := a) (c := c) (u := u) (v := v) (H2 := H2) (E := E) ea q
  generalize (tSeq (tAsg (tOp (rMinus) (tOp (rIx K) (tVar 0) (tC (.int 2))) (tOp (rFloor) (tOp (rIx K) (tVar 0) (tC (.int 2))) (tC (.int 16)))) (gName 3)) (tSeq (tIfS (tTest (tOp (rSame K) (tVar 1) (tC (.int 1)))) (tAsg (tOp (rPlus K) (tOp (rIx K) (tVar 0) (tC (.int 2))) (tOp (rFloor) (tOp (rMinus) (tC (.int 16777216)) (tOp (rIx K) (tVar 0) (tC (.int 2)))) (tC (.int 16)))) (gName 3)) (tNext)) (tSeq (tAsg (tC (.int 1)) (gName 4)) (tSeq (tIfS (tAnd (tTest (tOp (iGt) (tOp (rIx K) (tVar 0) (tC (.int 4))) (tC (.int 0)))) (tTest (tOp (rSame K) (tOp (rIx K) (tVar 0) (tC (.int 3))) (tVar 1)))) (tAsg (tCB (rLeast K) (tCons (tC (.int 255)) (tCons (tOp (rPlus K) (tOp (rIx K) (tVar 0) (tC (.int 4))) (tC (.int 1))) (tNil)))) (gName 4)) (tNext)) (tRet (tOp (rPlus K) (tVar 2) (tLst (tCons (tCB (rLeast K) (tCons (tOp (rMinus) (tC (.int 16777216)) (tC (.int 32768))) (tCons (tCB (rGreatest K) (tCons (tC (.int 32768)) (tCons (tVar 3) (tNil)))) (tNil)))) (tCons (tVar 1) (tCons (tVar 4) (tNil))))))))))) = R2 at tail ⊢
  walk_at "gn"
  rename_i c0 nc0
  have s1 := same_new (u := .lst (([s.n + 1 - b, s.o + b] : List Int).map V.int)) (Same.refl H) nc0
  have ec0 : (upd H c0 (.lst (([s.n + 1 - b, s.o + b] : List Int).map V.int))) c0 = some (.lst [.int (s.n + 1 - b), .int (s.o + b)]) := upd_same
  generalize upd H c0 (.lst (([s.n + 1 - b, s.o + b] : List Int).map V.int)) = H1 at s1 ec0 ⊢
  walk_at "gn"
  refine dif (fun c1 => ?_) fun c1 => ?_
  · walk_at "gn"
    rename_i c2 nc2
    exact tail (same_new s1 nc2) upd_same (if_pos c1).symm (if_pos c1).symm
  · walk_at "gn"
    exact tail s1 ec0 (if_neg c1).symm (if_neg c1).symm
  ) only [↓Bx.eq]
def F_Ldue (K : PySem.W.Frag) : V → V → Hp → VK → XK → Prop := fun x y H Q _ => ∃ (la a : Addr) (k : Lk) (s : St5), x = .ref la ∧ y = .ref a ∧ LookH H la k ∧ LkOk k ∧ Ok5 s ∧ H a = some (.lst (s.vs.map V.int)) ∧ Q (.int (chanceS (sl5 k.1 s))) H
abbrev sp_Ldue (K : PySem.W.Frag) : Sp := on2 (F_Ldue K)
def t_Ldue (K : PySem.W.Frag) (E : XK) : TS :=
  tSeq (tIfS (tTest (tOp (rSame K) (tOp (rIx K) (tVar 0) (tC (.int 0))) (tC (.str "even")))) (tRet (tOp (rFloor) (tOp (rTimes) (tOp (rPlus K) (tOp (rTimes) (tC (.int 2)) (tOp (rIx K) (tVar 1) (tC (.int 1)))) (tC (.int 1))) (tC (.int 16777216))) (tOp (rPlus K) (tOp (rTimes) (tC (.int 2)) (tOp (rPlus K) (tOp (rIx K) (tVar 1) (tC (.int 0))) (tOp (rIx K) (tVar 1) (tC (.int 1))))) (tC (.int 2))))) (tNext))
  (tSeq (tIfS (tTest (tOp (rSame K) (tOp (rIx K) (tVar 0) (tC (.int 0))) (tC (.str "quick")))) (tRet (tOp (rIx K) (tVar 1) (tC (.int 2)))) (tNext))
  (tSeq (tAsg (tOp (rFloor) (tOp (rTimes) (tOp (rPlus K) (tOp (rTimes) (tC (.int 2)) (tOp (rIx K) (tVar 1) (tC (.int 4)))) (tC (.int 1))) (tC (.int 16777216))) (tOp (rPlus K) (tOp (rTimes) (tC (.int 2)) (tOp (rIx K) (tVar 1) (tC (.int 4)))) (tC (.int 2)))) (gName 2))
  (tSeq (tIfS (tTest (tOp (rSame K) (tOp (rIx K) (tVar 1) (tC (.int 3))) (tC (.int 1)))) (tRet (tVar 2)) (tNext))
  (tRet (tOp (rMinus) (tC (.int 16777216)) (tVar 2))))))
theorem pure_Ldue {x y : V} {H : Hp} {Q : VK} {E : XK} (h : F_Ldue K x y H Q E) : t_Ldue K E ⟨fun _ H' => Q .non H', Q, fun _ _ => False, fun _ _ => False⟩ [some x, some y, none] H := by
  refine Bx.out ?_
  simp (disch := with_unfolding_all
  obtain ⟨la, a, k, s, rfl, rfl, ⟨lb, e1, e2⟩, kok, ok, ea, q⟩ := h
  obtain ⟨h1, h2, h3, h4, h5, h6, h7, h8, h9⟩ := ok
  have ea : H a = some (.lst [.int s.n, .int s.o, .int s.h, .int s.b, .int s.l]) := ea
  have i4 : atI [V.int s.n, .int s.o, .int s.h, .int s.b, .int s.l] 4 = some (.int s.l) := rfl
  unfold t_Ldue
  walk_at "gn"
  refine dif (fun c1 => ?_) fun c1 => ?_
  · walk_at "gn"
    refine g_floor (cdw_small (by omega) (by omega)) ?_
    have e : sl5 k.1 s = .even s.n s.o := if_pos c1
    rw [e] at q
    exact q
  refine g_next ?_
  walk_at "gn"
  refine dif (fun c2 => ?_) fun c2 => ?_
  · walk_at "gn"
    have e : sl5 k.1 s = .quick s.h := by
      unfold sl5
      rw [if_neg c1, if_pos c2]
    rw [e] at q
    exact q
  refine g_next ?_
  have e : sl5 k.1 s = .run s.b s.l := by
    unfold sl5
    rw [if_neg c1, if_neg c2]
  rw [e, chanceS_run] at q
  walk_at "gn"
  refine g_floor (cdw_small (by omega) (by omega)) ?_
  walk_at "gn"
  refine dif (fun c3 => ?_) fun c3 => ?_
  · walk_at "gn"
    rw [if_pos c3] at q
    exact q
  · refine g_next ?_
    walk_at "gn"
    rw [if_neg c3] at q
    exact q
  ) only [↓Bx.eq]
def F_Lcontext (K : PySem.W.Frag) : V → V → V → Hp → VK → XK → Prop := fun x y z H Q _ => ∃ (la c : Addr) (k : Lk) (ns : List Int) (node : Int), x = .ref la ∧ y = .ref c ∧ z = .int node ∧ LookH H la k ∧ LkOk k ∧ H c = some (.lst (ns.map V.int)) ∧ ns.length ≤ 1000 ∧ ∀ p H', H p = none → Same H H' → H' p = some (.tup ((ctx k.2 ns node).map V.int)) → Q (.ref p) H'
abbrev sp_Lcontext (K : PySem.W.Frag) : Sp := on3 (F_Lcontext K)
def t_Lcontext (K : PySem.W.Frag) (E : XK) : TS :=
  tSeq (tAsg (tOp (rPlus K) (tLst (tCons (tC (.int 256)) (tCons (tC (.int 256)) (tCons (tC (.int 256)) (tCons (tC (.int 256)) (tCons (tC (.int 256)) (tCons (tC (.int 256)) (tCons (tC (.int 256)) (tCons (tC (.int 256)) (tNil)))))))))) (tVar 1)) (gName 3))
  (tRet (tCB (rTupleOf K) (tCons (tOp (rPlus K) (tLc (iTup K (tOp (rIx K) (tVar 0) (tC (.int 1)))) (gName 4) (tYes) (tOp (rIx K) (tVar 3) (tOp (rMinus) (tCB (rLength K) (tCons (tVar 3) (tNil))) (tVar 4))) [4]) (tLst (tCons (tVar 2) (tNil)))) (tNil))))
theorem pure_Lcontext {x y z : V} {H : Hp} {Q : VK} {E : XK} (h : F_Lcontext K x y z H Q E) : t_Lcontext K E ⟨fun _ H' => Q .non H', Q, fun _ _ => False, fun _ _ => False⟩ [some x, some y, some z, none, none] H := by
  refine Bx.out ?_
  simp (disch := with_unfolding_all
  obtain ⟨la, c, k, ns, node, rfl, rfl, rfl, ⟨lb, e1, e2⟩, kok, ec, nl, q⟩ := h
  have P := kok.plc
  have p4 := P.len
  unfold t_Lcontext
  walk_at "go"
  intro o no
  have s1 := same_new (u := .lst [V.int 256, .int 256, .int 256, .int 256, .int 256, .int 256, .int 256, .int 256]) (Same.refl H) no
  have eo : (upd H o (.lst [V.int 256, .int 256, .int 256, .int 256, .int 256, .int 256, .int 256, .int 256])) o = some (.lst ((List.replicate 8 (256 : Int)).map V.int)) := upd_same
  generalize upd H o (.lst [V.int 256, .int 256, .int 256, .int 256, .int 256, .int 256, .int 256, .int 256]) = H1 at s1 eo ⊢
  walk_at "go"
  intro m nm
  rw [← List.map_append]
  have s2 := same_new (u := .lst ((List.replicate 8 (256 : Int) ++ ns).map V.int)) s1 nm
  have em : (upd H1 m (.lst ((List.replicate 8 (256 : Int) ++ ns).map V.int))) m = some (.lst ((List.replicate 8 (256 : Int) ++ ns).map V.int)) := upd_same
  generalize upd H1 m (.lst ((List.replicate 8 (256 : Int) ++ ns).map V.int)) = H2 at s2 em ⊢
  have e12 := s2 _ _ e1
  walk_at "go"
  refine lc_TI (stt_of (s2 _ _ e2)) (fun z => .int (ctxAt ns z)) (by omega) (fun z hz D H3 Q3 s3 k3 => ?_) fun D H3 nD s3 eD => ?_
  · obtain ⟨z1, z8⟩ := P.all z hz
    have em3 := s3 _ _ em
    walk_at "go"
    rw [List.length_map, List.length_append, List.length_replicate]
    refine g_ixL (sq_of em3) (ctx_ix z1 z8) ?_
    exact k3 _ (Same.refl _)
  have eD2 : H3 D = some (.lst ((k.2.map (ctxAt ns)).map V.int)) := by
    rw [eD, List.map_map]
    rfl
  have szD : ((k.2.map (ctxAt ns)).map V.int).length = k.2.length := by rw [List.length_map, List.length_map]
  clear eD
  walk_at "gn"
  rename_i u1 nu1 u2 nu2 p np
  have s4 := same_new (u := .lst ((k.2.map (ctxAt ns) ++ [node]).map V.int)) (same_new (u := .lst (([node] : List Int).map V.int)) (Same.refl H3) nu1) nu2
  have S4 := Same.trans s2 (Same.trans s3 s4)
  exact q p _ (S4.free np) (same_new S4 np) upd_same
  ) only [↓Bx.eq]
end
/-! k17: bits and decisions drawn -/
/-- a decision that stands beside the list l -/
def DecX (l : Addr) (H : Hp) (v : V) : Prop := ∃ (t c : Addr) (ns : List Int) (node bit : Int), v = .ref t ∧ H t = some (.tup [.ref c, .int node, .int bit]) ∧ H c = some (.lst (ns.map V.int)) ∧ ns.length ≤ 60 ∧ 0 ≤ bit ∧ bit ≤ 1 ∧ c ≠ l
structure DA (H H2 : Hp) (l : Addr) (ds : List V) : Prop where
  s : Same H H2
  e : H2 l = some (.lst ds)
  d : ∀ v ∈ ds, DecX l H2 v
  nl : H l = none
theorem DA.same {H H2 H3 : Hp} {l : Addr} {ds : List V} (A : DA H H2 l ds) (s : Same H2 H3) : DA H H3 l ds := ⟨Same.trans A.s s, s _ _ A.e, fun v hv => by
  obtain ⟨t, c, ns, node, bit, e, h1, h2, r⟩ := A.d v hv
  exact ⟨t, c, ns, node, bit, e, s _ _ h1, s _ _ h2, r⟩, A.nl⟩
theorem DA.push {H H2 H3 : Hp} {l t c : Addr} {ds : List V} {ns : List Int} {node bit : Int} (A : DA H H2 l ds) (s : Same H2 H3) (et : H3 t = some (.tup [.ref c, .int node, .int bit])) (ec : H3 c = some (.lst (ns.map V.int))) (nc : c ≠ l) (ln : ns.length ≤ 60) (b0 : 0 ≤ bit) (b1 : bit ≤ 1) :
    DA H (upd H3 l (.lst (ds ++ [.ref t]))) l (ds ++ [.ref t]) := by
  have el := s _ _ A.e
  have nt : ∀ {b : Addr} {xs : List V}, H3 b = some (.tup xs) → b ≠ l := fun h => ne_kind h el (by intro z; cases z)
  refine ⟨same_mut (Same.trans A.s s) A.nl, upd_same, fun v hv => ?_, A.nl⟩
  rcases List.mem_append.mp hv with hv | hv
  · obtain ⟨t2, c2, ns2, node2, bit2, e, h1, h2, l2, p0, p1, n2⟩ := A.d v hv
    exact ⟨t2, c2, ns2, node2, bit2, e, lk_mut (nt (s _ _ h1)) (s _ _ h1), lk_mut n2 (s _ _ h2), l2, p0, p1, n2⟩
  · rw [List.mem_singleton.mp hv]
    exact ⟨t, c, ns, node, bit, rfl, lk_mut (nt et) et, lk_mut nc ec, ln, b0, b1, nc⟩
section
variable (K : PySem.W.Frag)
def F_Ldecisions (K : PySem.W.Frag) : V → Hp → VK → XK → Prop := fun x H Q _ => ∃ (tl : Addr) (tas : List Addr), x = .ref tl ∧ H tl = some (.lst (tas.map V.ref)) ∧ tas.length ≤ 3 ∧ (∀ a ∈ tas, ∃ ns : List Int, H a = some (.lst (ns.map V.int)) ∧ ns.length ≤ 20) ∧
  ∀ l H' ds, H l = none → Same H H' → H' l = some (.lst ds) → (∀ v ∈ ds, DecH H' v) → ds.length ≤ 600 → Q (.ref l) H'
abbrev sp_Ldecisions (K : PySem.W.Frag) : Sp := on1 (F_Ldecisions K)
def t_Ldecisions (K : PySem.W.Frag) (E : XK) : TS :=
  tSeq (tAsg (tLst (tNil)) (gName 1))
  (tSeq (tFor (iList K (tVar 0)) (gName 2) (tSeq (tFor (iRng1 (tCons (tCB (rLength K) (tCons (tVar 2) (tNil))) (tNil))) (gName 3) (tSeq (tDrop (tBM K "list" (rAppend) (tVar 1) (tCons (tTup (tCons (tSl (rSlL K) (tVar 2) (tNoPart) (tPart (tVar 3))) (tCons (tC (.int 0)) (tCons (tC (.int 1)) (tNil))))) (tNil))))
  (tSeq (tAsg (tC (.int 1)) (gName 4))
  (tFor (iList K (tLst (tCons (tC (.int 128)) (tCons (tC (.int 64)) (tCons (tC (.int 32)) (tCons (tC (.int 16)) (tCons (tC (.int 8)) (tCons (tC (.int 4)) (tCons (tC (.int 2)) (tCons (tC (.int 1)) (tNil))))))))))) (gName 5) (tSeq (tAsg (tOp (rRest) (tOp (rFloor) (tOp (rIx K) (tVar 2) (tVar 3)) (tVar 5)) (tC (.int 2))) (gName 6))
  (tSeq (tDrop (tBM K "list" (rAppend) (tVar 1) (tCons (tTup (tCons (tSl (rSlL K) (tVar 2) (tNoPart) (tPart (tVar 3))) (tCons (tVar 4) (tCons (tVar 6) (tNil))))) (tNil))))
  (tAsg (tOp (rPlus K) (tOp (rTimes) (tC (.int 2)) (tVar 4)) (tVar 6)) (gName 4))))))))
  (tDrop (tBM K "list" (rAppend) (tVar 1) (tCons (tTup (tCons (tVar 2) (tCons (tC (.int 0)) (tCons (tC (.int 0)) (tNil))))) (tNil))))))
  (tRet (tVar 1)))
theorem pure_Ldecisions {x : V} {H : Hp} {Q : VK} {E : XK} (h : F_Ldecisions K x H Q E) : t_Ldecisions K E ⟨fun _ H' => Q .non H', Q, fun _ _ => False, fun _ _ => False⟩ [some x, none, none, none, none, none, none] H := by
  refine Bx.out ?_
  simp (disch := with_unfolding_all
  obtain ⟨tl, tas, rfl, etl, l3, tx, q⟩ := h
  unfold t_Ldecisions
  walk_at "gn"
  rename_i l nl
  have A0 : DA H (upd H l (.lst [])) l [] := ⟨same_new (Same.refl H) nl, upd_same, (fun v h => nomatch h), nl⟩
  have etl1 := lk_new (u := .lst []) etl nl
  generalize upd H l (.lst []) = H1 at A0 etl1 ⊢
  refine for_L (sq_of etl1) (fun i σ H2 => ∃ u2 u3 u4 u5 u6 ds, σ = [some (.ref tl), some (.ref l), u2, u3, u4, u5, u6] ∧ DA H H2 l ds ∧ ds.length ≤ 181 * i ∧ i ≤ 3) ?_ ?_ ?_ ?_
  · exact ⟨_, _, _, _, _, [], rfl, A0, Nat.le_refl _, by decide⟩
  · rintro i σ H2 ⟨u2, u3, u4, u5, u6, ds, rfl, A, -, -⟩
    exact sq_of (A.s _ _ etl)
  · rintro i x σ H2 hx ⟨u2, u3, u4, u5, u6, ds, rfl, A, dl, i3⟩
    obtain ⟨ta, hta, rfl⟩ := map_at hx
    have hi := (List.getElem?_eq_some_iff.mp hta).1
    obtain ⟨ns, ens, n20⟩ := tx ta (List.mem_of_getElem? hta)
    have nta : ta ≠ l := fun z => by rw [z, nl] at ens; cases ens
    have ens2 := A.s _ _ ens
    have el2 := A.e
    walk_at "gn"
    rw [List.length_map]
    refine for_R1 (k := ns.length) rfl (by omega) (fun k σ H3 => ∃ u3 u4 u5 u6 ds2, σ = [some (.ref tl), some (.ref l), some (.ref ta), u3, u4, u5, u6] ∧ DA H H3 l ds2 ∧ ds2.length ≤ 181 * i + 9 * k) ?_ ?_ ?_
    · exact ⟨_, _, _, _, ds, rfl, A, by omega⟩
    · rintro k σ H3 hk ⟨u3, u4, u5, u6, ds2, rfl, A3, dl3⟩
      have ens3 := A3.s _ _ ens
      have el3 := A3.e
      walk_at "gn"
      rename_i c nc t nt pl npl
      have ncl : c ≠ l := fun z => by rw [z, el3] at nc; cases nc
      have A4 := A3.push (node := 0) (bit := 1) (H3 := upd (upd H3 c (.lst ((ns.take k).map V.int))) t (.tup [.ref c, .int 0, .int 1])) (same_new (same_new (Same.refl H3) nc) nt) upd_same (lk_new upd_same nt) ncl (by rw [List.length_take]; omega) (by decide) (by decide)
      have dl4 : (ds2 ++ [V.ref t]).length ≤ 181 * i + 9 * k + 1 := by rw [List.length_append, List.length_singleton]; omega
      generalize ds2 ++ [V.ref t] = ds4 at A4 dl4 npl ⊢
      generalize upd (upd (upd H3 c (.lst ((ns.take k).map V.int))) t (.tup [.ref c, .int 0, .int 1])) l (.lst ds4) = H4 at A4 npl ⊢
      have npll : pl ≠ l := fun z => by rw [z, A4.e] at npl; cases npl
      have A5 := A4.same (same_new (u := .lst [V.int 128, .int 64, .int 32, .int 16, .int 8, .int 4, .int 2, .int 1]) (Same.refl H4) npl)
      have epl : (upd H4 pl (.lst [V.int 128, .int 64, .int 32, .int 16, .int 8, .int 4, .int 2, .int 1])) pl = some (.lst (([128, 64, 32, 16, 8, 4, 2, 1] : List Int).map V.int)) := upd_same
      generalize upd H4 pl (.lst [V.int 128, .int 64, .int 32, .int 16, .int 8, .int 4, .int 2, .int 1]) = H5 at A5 epl ⊢
      refine for_LI (sq_of epl) (fun j σ H6 => ∃ nd u5 u6 ds3, σ = [some (.ref tl), some (.ref l), some (.ref ta), some (.int (k : Int)), some (.int nd), u5, u6] ∧ DA H H6 l ds3 ∧ ds3.length ≤ 181 * i + 9 * k + 1 + j ∧ j ≤ 8 ∧ H6 pl = some (.lst (([128, 64, 32, 16, 8, 4, 2, 1] : List Int).map V.int))) ?_ ?_ ?_ ?_
      · exact ⟨_, _, _, ds4, rfl, A5, dl4, by decide, epl⟩
      · rintro j σ H6 ⟨nd, u5, u6, ds3, rfl, -, -, -, ep⟩
        exact sq_of ep
      · rintro j z σ H6 hz ⟨nd, u5, u6, ds3, rfl, A6, dl6, j8, ep⟩
        have hj : j < 8 := (List.getElem?_eq_some_iff.mp hz).1
        have zb : ∀ z ∈ ([128, 64, 32, 16, 8, 4, 2, 1] : List Int), 1 ≤ z ∧ z ≤ 128 := by decide
        obtain ⟨z1, z2⟩ := zb z (List.mem_of_getElem? hz)
        have ens6 := A6.s _ _ ens
        have el6 := A6.e
        have eix : atI (ns.map V.int) (k : Int) = some (.int (ns.getD k 0)) := ix_ints hk
        walk_at "gn"
        refine g_floor (cdw_small (by omega) (by omega)) ?_
        walk_at "gn"
        rename_i c6 nc6 t6 nt6
        have ncl6 : c6 ≠ l := fun z => by rw [z, el6] at nc6; cases nc6
        generalize hbit : ns.getD k 0 / z % 2 = bit at nt6 ⊢
        have A7 := A6.push (node := nd) (bit := bit) (H3 := upd (upd H6 c6 (.lst ((ns.take k).map V.int))) t6 (.tup [.ref c6, .int nd, .int bit])) (same_new (same_new (Same.refl H6) nc6) nt6) upd_same (lk_new upd_same nt6) ncl6 (by rw [List.length_take]; omega) (by omega) (by omega)
        exact ⟨_, _, _, _, rfl, A7, by rw [List.length_append, List.length_singleton]; omega, hj, lk_mut npll (lk_new (lk_new ep nc6) nt6)⟩
      · rintro σ H6 ⟨nd, u5, u6, ds3, rfl, A6, dl6, -, -⟩
        refine ⟨_, _, _, _, ds3, rfl, A6, ?_⟩
        have : ds3.length ≤ 181 * i + 9 * k + 1 + 8 := dl6
        omega
    · rintro σ H3 ⟨u3, u4, u5, u6, ds2, rfl, A3, dl3⟩
      have ens3 := A3.s _ _ ens
      have el3 := A3.e
      walk_at "gn"
      rename_i t nt
      have A4 := A3.push (node := 0) (bit := 0) (H3 := upd H3 t (.tup [.ref ta, .int 0, .int 0])) (same_new (Same.refl H3) nt) upd_same (lk_new ens3 nt) nta (by omega) (by decide) (by decide)
      exact ⟨_, _, _, _, _, _, rfl, A4, by rw [List.length_append, List.length_singleton]; omega, by omega⟩
  · rintro σ H2 ⟨u2, u3, u4, u5, u6, ds, rfl, A, dl, i3⟩
    walk_at "gn"
    refine q l H2 ds nl A.s A.e (fun v hv => ?_) (by omega)
    obtain ⟨t, c, ns, node, bit, e, h1, h2, l2, p0, p1, -⟩ := A.d v hv
    exact ⟨t, c, ns, node, bit, e, h1, h2, l2, p0, p1⟩
  ) only [↓Bx.eq]
def F_Lbits (K : PySem.W.Frag) : V → V → Hp → VK → XK → Prop := fun x y H Q _ => ∃ (a : Addr) (ns : List Int), x = .ref a ∧ y = .int 700 ∧ SqL K H a (ns.map V.int) ∧ ns.length ≤ 63 ∧ ∀ l H' bs, H l = none → Same H H' → H' l = some (.lst ((bs : List Int).map V.int)) → (∀ z ∈ bs, 0 ≤ z ∧ z ≤ 1) → bs.length ≤ 700 → Q (.ref l) H'
abbrev sp_Lbits (K : PySem.W.Frag) : Sp := on2 (F_Lbits K)
def t_Lbits (K : PySem.W.Frag) (E : XK) : TS :=
  tSeq (tAsg (tLst (tNil)) (gName 2))
  (tSeq (tFor (iEnum K (tCons (tSl (rSlL K) (tVar 0) (tNoPart) (tPart (tVar 1))) (tNil))) (gTup K 2 (gCons (gName 3) (gCons (gName 4) (gNil)))) (tSeq (tAsg (tOp (rRest) (tOp (rTimes) (tOp (rPlus K) (tOp (rPlus K) (tOp (rRest) (tVar 4) (tC (.int 1000000007))) (tOp (rTimes) (tOp (rTimes) (tC (.int 31)) (tVar 3)) (tVar 3))) (tC (.int 7))) (tC (.int 48271))) (tC (.int 2147483647))) (gName 5))
  (tAsg (tOp (rPlus K) (tVar 2) (tOp (rTimes) (tLst (tCons (tOp (rRest) (tVar 5) (tC (.int 2))) (tNil))) (tOp (rIx K) (tLst (tCons (tC (.int 1)) (tCons (tC (.int 1)) (tCons (tC (.int 2)) (tCons (tOp (rPlus K) (tC (.int 1)) (tOp (rRest) (tOp (rFloor) (tVar 5) (tC (.int 8))) (tC (.int 7)))) (tCons (tOp (rPlus K) (tC (.int 1)) (tOp (rRest) (tOp (rFloor) (tVar 5) (tC (.int 8))) (tC (.int 40)))) (tNil))))))) (tOp (rRest) (tOp (rFloor) (tVar 5) (tC (.int 2))) (tC (.int 5)))))) (gName 2))))
  (tRet (tSl (rSlL K) (tVar 2) (tNoPart) (tPart (tVar 1)))))
theorem pure_Lbits {x y : V} {H : Hp} {Q : VK} {E : XK} (h : F_Lbits K x y H Q E) : t_Lbits K E ⟨fun _ H' => Q .non H', Q, fun _ _ => False, fun _ _ => False⟩ [some x, some y, none, none, none, none] H := by
  refine Bx.out ?_
  simp (disch := with_unfolding_all
  obtain ⟨a, ns, rfl, rfl, hS, hl, q⟩ := h
  unfold t_Lbits
  walk_at "gn"
  rename_i l nl p np
  obtain ⟨cu, ecu, cl⟩ : ∃ cu : List Int, cutV (ns.map V.int) none (some 700) = cu.map V.int ∧ cu.length ≤ 63 := ⟨_, cutV_map _ _ _ _, Nat.le_trans (cutL_len _ _ _) hl⟩
  rw [ecu]
  have s1 := same_new (u := .lst (cu.map V.int)) (same_new (u := .lst []) (Same.refl H) nl) np
  have el : (upd (upd H l (.lst [])) p (.lst (cu.map V.int))) l = some (.lst (([] : List Int).map V.int)) := lk_new upd_same np
  have ep : (upd (upd H l (.lst [])) p (.lst (cu.map V.int))) p = some (.lst (cu.map V.int)) := upd_same
  generalize upd (upd H l (.lst [])) p (.lst (cu.map V.int)) = H1 at s1 el ep ⊢
  refine for_EI (sq_of ep) (fun i σ H2 => ∃ (r : Addr) (u3 u4 u5 : Option V) (bs : List Int), σ = [some (.ref a), some (.int 700), some (.ref r), u3, u4, u5] ∧ Same H1 H2 ∧ H2 r = some (.lst (bs.map V.int)) ∧ H r = none ∧ (∀ z ∈ bs, 0 ≤ z ∧ z ≤ 1) ∧ bs.length ≤ 40 * i ∧ i ≤ 63) ?_ ?_ ?_ ?_
  · exact ⟨l, _, _, _, [], rfl, Same.refl _, el, nl, (fun z h => nomatch h), Nat.le_refl _, by decide⟩
  · rintro i σ H2 ⟨r, u3, u4, u5, bs, rfl, s2, -⟩
    exact sq_of (s2 _ _ ep)
  · rintro i z σ H2 T hz nT ⟨r, u3, u4, u5, bs, rfl, s2, er, nr, bz, bl, i63⟩
    have hi := (List.getElem?_eq_some_iff.mp hz).1
    have s3 := same_new (u := .tup [.int (i : Int), .int z]) s2 nT
    have er3 := lk_new (u := .tup [.int (i : Int), .int z]) er nT
    generalize upd H2 T (.tup [.int (i : Int), .int z]) = H3 at s3 er3 ⊢
    have bsz : (bs.map V.int).length ≤ 2520 := by rw [List.length_map]; omega
    walk_at "gn"
    generalize hw : (z % 1000000007 + 31 * (i : Int) * (i : Int) + 7) * 48271 % 2147483647 = w
    have w0 : 0 ≤ w := by omega
    rename_i o1 no1 o2 no2
    obtain ⟨v, hv, v1, v40⟩ : ∃ v : Int, atI [V.int 1, .int 1, .int 2, .int (1 + w / 8 % 7), .int (1 + w / 8 % 40)] (w / 2 % 5) = some (.int v) ∧ 1 ≤ v ∧ v ≤ 40 := by
      have : w / 2 % 5 = 0 ∨ w / 2 % 5 = 1 ∨ w / 2 % 5 = 2 ∨ w / 2 % 5 = 3 ∨ w / 2 % 5 = 4 := by omega
      rcases this with e | e | e | e | e <;> rw [e] <;> exact ⟨_, rfl, by omega, by omega⟩
    rw [hw] at no2
    have s4 := same_new (u := .lst [V.int 1, .int 1, .int 2, .int (1 + w / 8 % 7), .int (1 + w / 8 % 40)]) (same_new (u := .lst (([w % 2] : List Int).map V.int)) (Same.refl H3) no1) no2
    have eo1 : (upd (upd H3 o1 (.lst (([w % 2] : List Int).map V.int))) o2 (.lst [V.int 1, .int 1, .int 2, .int (1 + w / 8 % 7), .int (1 + w / 8 % 40)])) o1 = some (.lst (([w % 2] : List Int).map V.int)) := lk_new upd_same no2
    refine g_ixL (sq_of upd_same) hv ?_
    generalize upd (upd H3 o1 (.lst (([w % 2] : List Int).map V.int))) o2 (.lst [V.int 1, .int 1, .int 2, .int (1 + w / 8 % 7), .int (1 + w / 8 % 40)]) = H4 at s4 eo1 ⊢
    have er4 := s4 _ _ er3
    refine g_rep1 eo1 ⟨by omega, by omega⟩ fun m nm => ?_
    refine g_catM (lk_new er4 nm) upd_same (Nat.le_trans (m := 3000) (by rw [List.length_map, List.length_map, List.length_replicate]; omega) (by decide)) fun r2 nr2 => ?_
    have s5 := same_new (u := .lst ((List.replicate v.toNat (w % 2)).map V.int)) s4 nm
    have S5 := Same.trans s3 s5
    walk_at "gn"
    refine ⟨r2, _, _, _, _, rfl, same_new S5 nr2, upd_same, Same.free (Same.trans s1 S5) nr2, fun z hz => ?_, by rw [List.length_append, List.length_replicate]; omega, by omega⟩
    rcases List.mem_append.mp hz with hz | hz
    · exact bz z hz
    · rw [List.eq_of_mem_replicate hz]; omega
  · rintro σ H2 ⟨r, u3, u4, u5, bs, rfl, s2, er, nr, bz, bl, i63⟩
    walk_at "gn"
    rename_i f nf
    obtain ⟨cb, ecb, cb1, cb2⟩ : ∃ cb : List Int, cutV (bs.map V.int) none (some 700) = cb.map V.int ∧ cb.length ≤ 700 ∧ ∀ z ∈ cb, z ∈ bs := ⟨_, cutV_map _ _ _ _, by
      have e : cutL bs none (some 700) = bs.take 700 := cutL_to bs 700
      rw [e, List.length_take]
      omega, fun z hz => cutL_sub _ _ _ hz⟩
    rw [ecb]
    have S2 := Same.trans s1 s2
    exact q f _ cb (S2.free nf) (same_new S2 nf) upd_same (fun z hz => bz z (cb2 z hz)) cb1
  ) only [↓Bx.eq]
end
/-! k17: a book and the law's own slots -/
theorem g_dget2 {td ty tx : TE} {σ : St} {H : Hp} {Q : VK} (q : td σ H fun x H1 => ∃ a, x = .ref a ∧ IsD H1 a ∧ ty σ H1 fun y H2 => tx σ H2 fun z H3 => ∃ o, DGet H3 a y o ∧ Q (o.getD z) H3) : tDGet2 td ty tx σ H Q := q
def D5 (H : Hp) (kind : Str) (f : BkF) (kvs : List (List Key × V)) (N : Addr → Prop) : Prop := ∀ c, (valV kvs (kc c) = none → f c = new0 kind) ∧ ∀ v, valV kvs (kc c) = some v → ∃ a s, v = .ref a ∧ H a = some (.lst (s.vs.map V.int)) ∧ Ok5 s ∧ f c = sl5 kind s ∧ ¬ N a
theorem D5.keep {H H1 : Hp} {kind : Str} {f : BkF} {kvs : List (List Key × V)} {N M : Addr → Prop} (h : D5 H kind f kvs N) (s : SameX M H H1) (m : ∀ a s, H a = some (.lst (St5.vs s |>.map V.int)) → ¬ N a → ¬ M a) : D5 H1 kind f kvs N := fun c => ⟨(h c).1, fun v hv => by
  obtain ⟨a, s5, e, ea, ok, fe, na⟩ := (h c).2 v hv
  exact ⟨a, s5, e, s.kp _ _ (m a s5 ea na) ea, ok, fe, na⟩⟩
theorem D5.same {H H1 : Hp} {kind : Str} {f : BkF} {kvs : List (List Key × V)} {N : Addr → Prop} (h : D5 H kind f kvs N) (s : Same H H1) : D5 H1 kind f kvs N := h.keep (M := fun _ => False) (SameX.of s) fun _ _ _ _ z => z
theorem D5.get {H : Hp} {kind : Str} {f : BkF} {kvs : List (List Key × V)} {N : Addr → Prop} {c : List Int} {df : Addr} (h : D5 H kind f kvs N) (e : H df = some (.lst (st5.vs.map V.int))) : ∃ a s, (valV kvs (kc c)).getD (.ref df) = .ref a ∧ H a = some (.lst (s.vs.map V.int)) ∧ Ok5 s ∧ f c = sl5 kind s := by
  cases hv : valV kvs (kc c) with
  | none => exact ⟨df, st5, rfl, e, ok_st5, (h c).1 hv⟩
  | some v =>
    obtain ⟨a, s, ev, ea, ok, fe, -⟩ := (h c).2 v hv
    exact ⟨a, s, ev, ea, ok, fe⟩
theorem BookAt.mono {K : PySem.W.Frag} {H : Hp} {a : Addr} {Fp : Addr → Prop} {k : Lk} {f : BkF} {n n2 : Nat} (h : BookAt K H a Fp k f n) (l : n ≤ n2) : BookAt K H a Fp k f n2 := by
  obtain ⟨dx, la, d, kvs, B⟩ := h
  exact ⟨dx, la, d, kvs, { B with len := Nat.le_trans B.len l }⟩
theorem BookAt.in_ {K : PySem.W.Frag} {H : Hp} {a : Addr} {Fp : Addr → Prop} {k : Lk} {f : BkF} {n : Nat} (h : BookAt K H a Fp k f n) : ∃ dx la d, H a = some (.ins (He.ga K "Book") dx (bookF la d)) := by
  obtain ⟨dx, la, d, kvs, B⟩ := h
  exact ⟨dx, la, d, B.ins⟩
section
variable (K : PySem.W.Frag) [HasCls K "Book"] [HasNo K "Book" "look"] [HasNo K "Book" "slots"]
def F_Lright (K : PySem.W.Frag) : V → V → V → V → V → Hp → VK → XK → Prop := fun x y z u v H Q _ => ∃ (b la d r : Addr) (Fp N : Addr → Prop) (k : Lk) (f : BkF) (n : Nat) (kvs : List (List Key × V)) (ns : List Int) (node : Int), x = .ref b ∧ y = .ref la ∧ z = .ref d ∧ u = .ref r ∧ v = .int node ∧ BookAt K H b Fp k f n ∧ LookH H la k ∧ LkOk k ∧ H d = some (.dT kvs) ∧ D5 H k.1 f kvs N ∧ H r = some (.lst (ns.map V.int)) ∧ ns.length ≤ 60 ∧ ∀ H', Same H H' → Q (.bl true) H'
abbrev sp_Lright (K : PySem.W.Frag) : Sp := on5 (F_Lright K)
def t_Lright (K : PySem.W.Frag) (E : XK) : TS :=
  tSeq (tAsg (tCB (rListOf K) (tCons (tVar 3) (tNil))) (gName 5))
  (tSeq (tAsg (tMth "chance" (one (He.ga K "Book") (sp_Book_chance K)) (fun _ => E) (tVar 0) (tCons (tVar 3) (tCons (tVar 4) (tNil)))) (gName 6))
  (tSeq (tAsg (tFun (sp_Ldue K) [] (fun _ => E) (tCons (tVar 1) (tCons (tDGet2 (tVar 2) (tFun (sp_Lcontext K) [] (fun _ => E) (tCons (tVar 1) (tCons (tVar 5) (tCons (tVar 4) (tNil))))) (tLst (tCons (tC (.int 0)) (tCons (tC (.int 0)) (tCons (tC (.int 8388608)) (tCons (tC (.int 0)) (tCons (tC (.int 0)) (tNil)))))))) (tNil)))) (gName 7))
  (tSeq (tDrop (tMth "chance" (one (He.ga K "Book") (sp_Book_chance K)) (fun _ => E) (tVar 0) (tCons (tVar 3) (tCons (tOp (rMinus) (tC (.int 255)) (tVar 4)) (tNil)))))
  (tRet (tAndV (tFun (sp_Lwhole K) [] (fun _ => E) (tCons (tVar 6) (tNil))) (tAndV (tOp (rSame K) (tVar 6) (tVar 7)) (tAndV (tOp (rSame K) (tMth "chance" (one (He.ga K "Book") (sp_Book_chance K)) (fun _ => E) (tVar 0) (tCons (tVar 3) (tCons (tVar 4) (tNil)))) (tVar 7)) (tOp (rSame K) (tVar 3) (tVar 5)))))))))
theorem pure_Lright {x y z u v : V} {H : Hp} {Q : VK} {E : XK} (h : F_Lright K x y z u v H Q E) : t_Lright K E ⟨fun _ H' => Q .non H', Q, fun _ _ => False, fun _ _ => False⟩ [some x, some y, some z, some u, some v, none, none, none] H := by
  refine Bx.out ?_
  simp (disch := with_unfolding_all
  obtain ⟨b, la, d, r, Fp, N, k, f, n, kvs, ns, node, rfl, rfl, rfl, rfl, rfl, B, L, kok, ed, D, er, nl, q⟩ := h
  obtain ⟨bx, bl, bd, eb⟩ := B.in_
  unfold t_Lright
  walk_at "gn"
  rename_i sg nsg
  have s1 := same_new (u := .lst (ns.map V.int)) (Same.refl H) nsg
  have esg : (upd H sg (.lst (ns.map V.int))) sg = some (.lst (ns.map V.int)) := upd_same
  generalize upd H sg (.lst (ns.map V.int)) = H1 at s1 esg ⊢
  refine ⟨b, r, Fp, k, f, n, ns, node, rfl, rfl, rfl, B.same s1, kok, sq_of (s1 _ _ er), fun H2 s2 => ?_⟩
  have S2 := Same.trans s1 s2
  walk_at "gn"
  refine g_dget2 ?_
  walk_at "gn"
  refine ⟨d, rfl, .inr ⟨kvs, .inl (S2 _ _ ed)⟩, ?_⟩
  walk_at "gn"
  refine ⟨la, sg, k, ns, node, rfl, rfl, rfl, L.same S2, kok, s2 _ _ esg, by omega, fun p H3 np s3 ep => ?_⟩
  have S3 := Same.trans S2 s3
  walk_at "gn"
  rename_i df ndf
  have s4 := same_new (u := .lst [V.int 0, .int 0, .int 8388608, .int 0, .int 0]) (Same.refl H3) ndf
  have edf : (upd H3 df (.lst [V.int 0, .int 0, .int 8388608, .int 0, .int 0])) df = some (.lst (st5.vs.map V.int)) := upd_same
  generalize upd H3 df (.lst [V.int 0, .int 0, .int 8388608, .int 0, .int 0]) = H4 at s4 edf ⊢
  have S4 := Same.trans S3 s4
  generalize hcx : ctx k.2 ns node = cx at ep ⊢
  refine ⟨_, DGet.t (S4 _ _ ed) (by rw [kc_v]; exact s4 _ _ ep), ?_⟩
  obtain ⟨a5, s5, hv, ea5, ok5, fe⟩ := (D.same S4).get (c := cx) edf
  rw [hv]
  walk_at "gn"
  refine ⟨la, a5, k, s5, rfl, rfl, L.same S4, kok, ok5, ea5, ?_⟩
  rw [← fe]
  have eb4 := S4 _ _ eb
  walk_at "gn"
  refine ⟨b, r, Fp, k, f, n, ns, 255 - node, rfl, rfl, rfl, B.same S4, kok, sq_of (S4 _ _ er), fun H5 s5' => ?_⟩
  have S5 := Same.trans S4 s5'
  have eb5 := S5 _ _ eb
  have esg5 := s5' _ _ (s4 _ _ (s3 _ _ (s2 _ _ esg)))
  clear eb4 edf ea5 hv ep s4 s3 s2 s1
  walk_at "gn"
  refine ⟨.int, ?_⟩
  refine ⟨true, rfl, ?_⟩
  walk_at "gn"
  refine ⟨b, r, Fp, k, f, n, ns, node, rfl, rfl, rfl, B.same S5, kok, sq_of (S5 _ _ er), fun H6 s6 => ?_⟩
  rw [hcx]
  walk_at "gn"
  have S6 := Same.trans S5 s6
  refine g_sameLI (sq_of (S6 _ _ er)) (sq_of (s6 _ _ esg5)) ?_
  rw [decide_eq_true rfl]
  exact q _ S6
  ) only [↓Bx.eq]
variable [HasExc K "NoBit"] [HasExm K "NoBit" "ForetellError" true] [HasKit K "NoBit" "NoBit" true] [HasKitT K "NoBit" "ValueError" true] [HasKit K "NoBit" "NoText" false]
def F_Lrefused (K : PySem.W.Frag) : V → V → V → V → Hp → VK → XK → Prop := fun x y z u H Q _ => ∃ (b c : Addr) (Fp : Addr → Prop) (k : Lk) (f : BkF) (n : Nat) (ns : List Int) (node : Int), x = .ref b ∧ y = .ref c ∧ z = .int node ∧ BookAt K H b Fp k f n ∧ n ≤ 900000 ∧ LkOk k ∧ H c = some (.lst (ns.map V.int)) ∧ TyW K H u ∧ btw 0 1 u = false ∧ ∀ H', Same H H' → Q (.bl true) H'
abbrev sp_Lrefused (K : PySem.W.Frag) : Sp := on4 (F_Lrefused K)
def t_Lrefused (K : PySem.W.Frag) (E : XK) : TS :=
  tSeq (tAsg (tLst (tNil)) (gName 4))
  (tSeq (tTry K (.ref (He.ga K "ForetellError")) 5 (fun W1 => tDrop (tMth "seen" (one (He.ga K "Book") (sp_Book_seen K)) (WE W1) (tVar 0) (tCons (tVar 1) (tCons (tVar 2) (tCons (tVar 3) (tNil)))))) (fun ea1 eD1 => tAsg (tLst (tCons (tCB (rIsEx K eD1 ea1) (tCons (tVar 5) (tCons (tC (.ref (He.ga K "NoBit"))) (tNil)))) (tCons (tCB (rIsEx K eD1 ea1) (tCons (tVar 5) (tCons (tC (.ty "ValueError")) (tNil)))) (tCons (tCB (rIsEx K eD1 ea1) (tCons (tVar 5) (tCons (tC (.ref (He.ga K "NoText"))) (tNil)))) (tNil))))) (gName 4)) (fun cls d _ H => E cls d H))
  (tRet (tOp (rSame K) (tVar 4) (tLst (tCons (tC (.bl true)) (tCons (tC (.bl true)) (tCons (tC (.bl false)) (tNil))))))))
theorem pure_Lrefused {x y z u : V} {H : Hp} {Q : VK} {E : XK} (h : F_Lrefused K x y z u H Q E) : t_Lrefused K E ⟨fun _ H' => Q .non H', Q, fun _ _ => False, fun _ _ => False⟩ [some x, some y, some z, some u, none, none] H := by
  refine Bx.out ?_
  simp (disch := with_unfolding_all
  obtain ⟨b, c, Fp, k, f, n, ns, node, rfl, rfl, rfl, B, hn, kok, ec, ty, bt, q⟩ := h
  obtain ⟨bx, bl, bd, eb⟩ := B.in_
  unfold t_Lrefused
  walk_at "gn"
  rename_i l nl
  have s1 := same_new (u := .lst []) (Same.refl H) nl
  generalize upd H l (.lst []) = H1 at s1 ⊢
  have eb1 := s1 _ _ eb
  refine g_try ?_
  walk_at "gn"
  refine ⟨b, c, Fp, k, f, n, ns, node, rfl, rfl, rfl, B.same s1, hn, kok, sq_of (s1 _ _ ec), tyw_same s1 ty, fun _ => ?_, fun b' e b0 b1 => ?_⟩
  · refine g_we (g_caught (C := "NoBit") inferInstance inferInstance fun e ne => ?_)
    walk_at "gn"
    refine g_isx1 (D := "NoBit") inferInstance ?_
    walk_at "gn"
    refine g_isxT inferInstance ?_
    walk_at "gn"
    refine g_isx1 (D := "NoText") inferInstance ?_
    walk_at "gn"
    rename_i l1 nl1
    refine g_unset (by repeat (first | exact SetR.zero | apply SetR.succ)) ?_
    walk_at "gn"
    rename_i l2 nl2
    refine g_sameB (bs := [true, true, false]) (cs := [true, true, false]) (b := true) (sq_of (lk_new upd_same nl2)) (sq_of upd_same) (by decide) (by decide) (by decide) ?_
    exact q _ (same_new (same_new s1 nl1) nl2)
  · subst e
    rw [btw, decide_eq_true b0, decide_eq_true b1] at bt
    cases bt
  ) only [↓Bx.eq]
end
section
variable (K : PySem.W.Frag) [HasCls K "Book"] [HasNo K "Book" "look"] [HasNo K "Book" "slots"]
def F_Llong (K : PySem.W.Frag) : V → V → Hp → VK → XK → Prop := fun x y H Q _ => ∃ (la bl : Addr) (k : Lk) (bs : List Int), x = .ref la ∧ y = .ref bl ∧ LookH H la k ∧ LkOk k ∧ H bl = some (.lst (bs.map V.int)) ∧ (∀ z ∈ bs, 0 ≤ z ∧ z ≤ 1) ∧ bs.length ≤ 700 ∧ ∀ H', Same H H' → Q (.bl true) H'
abbrev sp_Llong (K : PySem.W.Frag) : Sp := on2 (F_Llong K)
def t_Llong (K : PySem.W.Frag) (E : XK) : TS :=
  tSeq (tAsg (tNew (He.ga K "Book") (sp_Book_init K) [] (fun _ => E) (tCons (tVar 0) (tNil))) (gName 2))
  (tSeq (tAsg (tLst (tCons (tC (.int 0)) (tCons (tC (.int 0)) (tCons (tC (.int 8388608)) (tCons (tC (.int 0)) (tCons (tC (.int 0)) (tNil))))))) (gName 3))
  (tSeq (tFor (iList K (tVar 1)) (gName 4) (tSeq (tIfS (tTest (tOp (rDiff K) (tMth "chance" (one (He.ga K "Book") (sp_Book_chance K)) (fun _ => E) (tVar 2) (tCons (tLst (tNil)) (tCons (tC (.int 0)) (tNil)))) (tFun (sp_Ldue K) [] (fun _ => E) (tCons (tVar 0) (tCons (tVar 3) (tNil)))))) (tRet (tC (.bl false))) (tNext))
  (tSeq (tDrop (tMth "seen" (one (He.ga K "Book") (sp_Book_seen K)) (fun _ => E) (tVar 2) (tCons (tLst (tNil)) (tCons (tC (.int 0)) (tCons (tVar 4) (tNil))))))
  (tAsg (tFun (sp_Lseen K) [] (fun _ => E) (tCons (tVar 3) (tCons (tVar 4) (tNil)))) (gName 3)))))
  (tRet (tOp (rSame K) (tMth "chance" (one (He.ga K "Book") (sp_Book_chance K)) (fun _ => E) (tVar 2) (tCons (tLst (tNil)) (tCons (tC (.int 0)) (tNil)))) (tFun (sp_Ldue K) [] (fun _ => E) (tCons (tVar 0) (tCons (tVar 3) (tNil))))))))
theorem pure_Llong {x y : V} {H : Hp} {Q : VK} {E : XK} (h : F_Llong K x y H Q E) : t_Llong K E ⟨fun _ H' => Q .non H', Q, fun _ _ => False, fun _ _ => False⟩ [some x, some y, none, none, none] H := by
  refine Bx.out ?_
  simp (disch := with_unfolding_all
  obtain ⟨la, bl, k, bs, rfl, rfl, L, kok, ebl, bz, bl7, q⟩ := h
  unfold t_Llong
  walk_at "gn"
  intro b bx nb nbx nbb
  have nb' : upd H bx (.own b) b = none := by rw [upd_ne nbb.symm]; exact nb
  have S0 := same_new (u := .ins (He.ga K "Book") bx []) (same_new (u := .own b) (Same.refl H) nbx) nb'
  walk_at "gn"
  refine ⟨b, bx, la, k, rfl, rfl, upd_same, L.same S0, fun Fb H1 gb s1 B1 => ⟨rfl, ?_⟩⟩
  have S1 : Same H H1 := SameX.back1 S0 s1 nb
  have fb1 : ∀ x, Fb x → H x = none := fun x hx => by
    rcases gb x hx with z | z
    · rw [z]; exact nb
    · exact upd_none (upd_none z)
  clear S0 nb' gb s1 nbx nbb
  walk_at "gn"
  rename_i st0 nst
  have s2 := same_new (u := .lst [V.int 0, .int 0, .int 8388608, .int 0, .int 0]) (Same.refl H1) nst
  have est : (upd H1 st0 (.lst [V.int 0, .int 0, .int 8388608, .int 0, .int 0])) st0 = some (.lst (st5.vs.map V.int)) := upd_same
  have B2 := B1.same s2
  generalize upd H1 st0 (.lst [V.int 0, .int 0, .int 8388608, .int 0, .int 0]) = H2 at s2 est B2 ⊢
  have S2 := Same.trans S1 s2
  refine for_LI (sq_of (S2 _ _ ebl)) (fun i σ H3 => ∃ (stl : Addr) (s : St5) (Fp : Addr → Prop) (f : BkF) (u4 : Option V), σ = [some (.ref la), some (.ref bl), some (.ref b), some (.ref stl), u4] ∧ Same H H3 ∧ BookAt K H3 b Fp k f i ∧ (∀ x, Fp x → H x = none) ∧ H3 stl = some (.lst (s.vs.map V.int)) ∧ Ok5 s ∧ f (ctx k.2 [] 0) = sl5 k.1 s ∧ i ≤ 700) ?_ ?_ ?_ ?_
  · exact ⟨st0, st5, Fb, _, _, rfl, S2, B2, fb1, est, ok_st5, rfl, by decide⟩
  · rintro i σ H3 ⟨stl, s, Fp, f, u4, rfl, S3, -⟩
    exact sq_of (S3 _ _ ebl)
  · rintro i z σ H3 hz ⟨stl, s, Fp, f, u4, rfl, S3, B3, fn, es, ok5, fe, i7⟩
    have hi := (List.getElem?_eq_some_iff.mp hz).1
    obtain ⟨z0, z1⟩ := bz z (List.mem_of_getElem? hz)
    obtain ⟨bx3, bl3, bd3, eb3⟩ := B3.in_
    walk_at "gn"
    rename_i e0 ne0
    have s4 := same_new (u := .lst []) (Same.refl H3) ne0
    have ee0 : (upd H3 e0 (.lst [])) e0 = some (.lst (([] : List Int).map V.int)) := upd_same
    generalize upd H3 e0 (.lst []) = H4 at s4 ee0 ⊢
    refine ⟨b, e0, Fp, k, f, i, [], 0, rfl, rfl, rfl, B3.same s4, kok, sq_of ee0, fun H5 s5 => ?_⟩
    have s35 := Same.trans s4 s5
    have S5 := Same.trans S3 s35
    walk_at "gn"
    refine ⟨la, stl, k, s, rfl, rfl, L.same S5, kok, ok5, s35 _ _ es, ?_⟩
    rw [fe]
    have eb5 := s35 _ _ eb3
    walk_at "gn"
    rename_i e1 ne1
    have s6 := same_new (u := .lst []) (Same.refl H5) ne1
    have ee1 : (upd H5 e1 (.lst [])) e1 = some (.lst (([] : List Int).map V.int)) := upd_same
    generalize upd H5 e1 (.lst []) = H6 at s6 ee1 ⊢
    have s36 := Same.trans s35 s6
    have B6 := B3.same s36
    have es6 := s36 _ _ es
    have nst6 := B6.nl es6
    refine ⟨b, e1, Fp, k, f, i, [], 0, rfl, rfl, rfl, B6, by omega, kok, sq_of ee1, .int, fun w => ?_, fun b' e' _ _ Fp7 H7 X7 nF7 B7 => ?_⟩
    · rw [btw, decide_eq_true z0, decide_eq_true z1] at w
      cases w
    cases e'
    have S6 := Same.trans S3 s36
    have S7 : Same H H7 := SameX.back S6 X7 fn
    have es7 := X7.kp _ _ nst6 es6
    walk_at "gn"
    refine ⟨stl, s, z, rfl, rfl, z0, z1, ok5, es7, fun l8 H8 nl8 s8 e8 => ?_⟩
    walk_at "gn"
    refine ⟨l8, step5 s z, Fp7, _, _, rfl, Same.trans S7 s8, B7.same s8, fun x hx => ?_, e8, ok5.step z0 z1, ?_, by omega⟩
    · rcases nF7 x hx with w | w
      · exact fn x w
      · exact S6.free w
    · unfold updB
      rw [if_pos rfl, fe, sl5_step ok5 z0 z1]
  · rintro σ H3 ⟨stl, s, Fp, f, u4, rfl, S3, B3, fn, es, ok5, fe, i7⟩
    obtain ⟨bx3, bl3, bd3, eb3⟩ := B3.in_
    walk_at "gn"
    rename_i e0 ne0
    have s4 := same_new (u := .lst []) (Same.refl H3) ne0
    have ee0 : (upd H3 e0 (.lst [])) e0 = some (.lst (([] : List Int).map V.int)) := upd_same
    generalize upd H3 e0 (.lst []) = H4 at s4 ee0 ⊢
    refine ⟨b, e0, Fp, k, f, _, [], 0, rfl, rfl, rfl, B3.same s4, kok, sq_of ee0, fun H5 s5 => ?_⟩
    have s35 := Same.trans s4 s5
    have S5 := Same.trans S3 s35
    walk_at "gn"
    refine ⟨la, stl, k, s, rfl, rfl, L.same S5, kok, ok5, s35 _ _ es, ?_⟩
    rw [fe]
    refine g_same ?_
    rw [decide_eq_true rfl]
    exact q _ S5
  ) only [↓Bx.eq]
end
/-! k17: two books walked -/
section
variable {K : PySem.W.Frag} {σ : St} {H : Hp} {tb : TS} {n : St → Hp → Prop} {rt : VK} {a : Addr} {xs : List V} {m1 m2 m3 m4 : Nat}
theorem for_E3 (hs : SqL K H a xs) (Pv : Nat → St → Hp → Prop) (h0 : Pv 0 σ H) (hl : ∀ i σ H, Pv i σ H → SqL K H a xs)
    (ht : ∀ i x σ H T, xs[i]? = some x → H T = none → Pv i σ H → ∃ t u v w, x = .ref t ∧ H t = some (.tup [u, v, w]) ∧ asgn m1 (fun σ1 H1 => asgn m2 (fun σ2 H2 => asgn m3 (fun σ3 H3 => asgn m4 (fun σ4 H4 => tb ⟨Pv (i + 1), rt, n, Pv (i + 1)⟩ σ4 H4) w σ3 H3) v σ2 H2) u σ1 H1) (.int (i : Int)) σ (upd H T (.tup [.int (i : Int), x])))
    (hd : ∀ σ H, Pv xs.length σ H → n σ H) : forEK K (gTup K 2 (gCons (gName m1) (gCons (gTup K 3 (gCons (gName m2) (gCons (gName m3) (gCons (gName m4) gNil)))) gNil))) tb n rt σ [.ref a] H := by
  refine ⟨a, xs, rfl, hs, fun i m σ H => m = xs.length - i ∧ i ≤ xs.length ∧ Pv i σ H, ⟨xs.length, rfl, Nat.zero_le _, h0⟩, ?_⟩
  rintro i m σ H ⟨rfl, hi, p⟩
  by_cases hlt : i < xs.length
  · refine .inr ⟨⟨xs, xs[i], hl i σ H p, List.getElem?_eq_getElem hlt⟩, fun σ' H' => Pv (i + 1) σ' H', fun σ' H' q => ⟨xs.length - (i + 1), by omega, rfl, hlt, q⟩, fun v H' hy => ?_⟩
    obtain ⟨T, x, rfl, nT, rfl, ex⟩ := hy
    have ex := ex xs (hl i σ H p)
    obtain ⟨t, u, v, w, rfl, et, hb⟩ := ht i x σ H T ex nT p
    exact ⟨T, [.int (i : Int), .ref t], rfl, stt_of upd_same, rfl, _, _, rfl, _, _, rfl, ⟨t, [u, v, w], rfl, stt_of (lk_new et nT), rfl, _, _, rfl, _, _, rfl, _, _, rfl, rfl, rfl, hb⟩⟩
  · have e : i = xs.length := by omega
    subst e
    exact .inl ⟨⟨xs, hl _ σ H p, Nat.le_refl _⟩, hd σ H p⟩
end
theorem g_hold17 {A B : TS} {D : Ends} {σ : St} {H : Hp} (q : ∀ B', B' = B → tSeq A B' D σ H) : tSeq A B D σ H := q B rfl
theorem SameX.grow17 {M N : Addr → Prop} {H H1 H2 : Hp} (s : SameX M H H1) (t : SameX N H1 H2) (h : ∀ x, N x → M x ∨ H x = none) : SameX M H H2 :=
  ⟨fun b o n e => t.kp b o (fun m => by
    rcases h b m with z | z
    · exact n z
    · rw [e] at z; cases z) (s.kp b o n e), fun b e => s.dm b (t.dm b e)⟩
/-- two books, two dicts, two rows; f is what the books know, g what the dicts hold -/
structure W17 (K : PySem.W.Frag) (Hs H : Hp) (M : Addr → Prop) (bk dd rr : Nat → Addr) (kk : Nat → Lk) (n : Nat) (Fp : Nat → Addr → Prop) (f g : Nat → BkF) (kv : Nat → List (List Key × V)) : Prop where
  X : SameX M Hs H
  bo : ∀ j, j < 2 → BookAt K H (bk j) (Fp j) (kk j) (f j) n
  di : ∀ j, j < 2 → H (dd j) = some (.dT (kv j))
  le : ∀ j, j < 2 → (kv j).length ≤ n
  d5 : ∀ j, j < 2 → D5 H (kk j).1 (g j) (kv j) (fun a => a = rr 0 ∨ a = rr 1)
  ro : ∀ j, j < 2 → ∃ xs, H (rr j) = some (.lst xs)
  mo : ∀ j, j < 2 → ∀ x, Fp j x → M x ∨ Hs x = none
  dj : ∀ i j, i < 2 → j < 2 → i ≠ j → ∀ x, Fp i x → ¬ Fp j x
  fd : ∀ i j, i < 2 → j < 2 → ¬ Fp i (dd j)
structure S17 (M : Addr → Prop) (dd rr : Nat → Addr) : Prop where
  mr : ∀ j, j < 2 → M (rr j)
  md : ∀ j, j < 2 → M (dd j)
  nd : dd 0 ≠ dd 1
section
variable {K : PySem.W.Frag} {Hs H H1 : Hp} {M : Addr → Prop} {bk dd rr : Nat → Addr} {kk : Nat → Lk} {n : Nat} {Fp : Nat → Addr → Prop} {f g : Nat → BkF} {kv : Nat → List (List Key × V)}
theorem W17.same (h : W17 K Hs H M bk dd rr kk n Fp f g kv) (s : Same H H1) : W17 K Hs H1 M bk dd rr kk n Fp f g kv :=
  ⟨h.X.trans (SameX.of s), fun j hj => (h.bo j hj).same s, fun j hj => s _ _ (h.di j hj), h.le, fun j hj => (h.d5 j hj).same s, fun j hj => by obtain ⟨xs, e⟩ := h.ro j hj; exact ⟨xs, s _ _ e⟩, h.mo, h.dj, h.fd⟩
theorem W17.mono {n2 : Nat} (h : W17 K Hs H M bk dd rr kk n Fp f g kv) (l : n ≤ n2) : W17 K Hs H M bk dd rr kk n2 Fp f g kv :=
  ⟨h.X, fun j hj => (h.bo j hj).mono l, h.di, fun j hj => Nat.le_trans (h.le j hj) l, h.d5, h.ro, h.mo, h.dj, h.fd⟩
theorem two_lt {j : Nat} (h : j < 2) : j = 0 ∨ j = 1 := by omega
/-- a row is filled anew -/
theorem W17.row {j : Nat} {xs : List V} (h : W17 K Hs H M bk dd rr kk n Fp f g kv) (S : S17 M dd rr) (hj : j < 2) : W17 K Hs (upd H (rr j) (.lst xs)) M bk dd rr kk n Fp f g kv := by
  obtain ⟨ys, er⟩ := h.ro j hj
  have X1 : SameX (· = rr j) H (upd H (rr j) (.lst xs)) := (SameX.refl H).mut rfl
  refine ⟨h.X.trans (X1.mono fun b e => by rw [e]; exact S.mr j hj), fun i hi => (h.bo i hi).keep X1 (fun b hb e => (h.bo i hi).nl er (by rw [← e]; exact hb)) (fun b zs hb e => by rw [e, er] at hb; cases hb), fun i hi => lk_mut (fun e => by have := h.di i hi; rw [e, er] at this; cases this) (h.di i hi), h.le, fun i hi => (h.d5 i hi).keep X1 (fun a s ea na e => na (by rcases two_lt hj with rfl | rfl; exact .inl e; exact .inr e)), fun i hi => ?_, h.mo, h.dj, h.fd⟩
  by_cases e : rr i = rr j
  · exact ⟨xs, by rw [e]; exact upd_same⟩
  · obtain ⟨zs, ez⟩ := h.ro i hi
    exact ⟨zs, lk_mut e ez⟩
/-- a book has seen a bit -/
theorem W17.seen {j : Nat} {Fj : Addr → Prop} {fj : BkF} (h : W17 K Hs H M bk dd rr kk n Fp f g kv) (hj : j < 2) (X1 : SameX (Fp j) H H1) (nF : ∀ x, Fj x → Fp j x ∨ H x = none) (B : BookAt K H1 (bk j) Fj (kk j) fj (n + 1)) :
    W17 K Hs H1 M bk dd rr kk (n + 1) (fun i => if i = j then Fj else Fp i) (fun i => if i = j then fj else f i) g kv := by
  have fresh : ∀ i, i < 2 → i ≠ j → ∀ x, Fj x → ¬ Fp i x := fun i hi e x hx hx2 => by
    rcases nF x hx with z | z
    · exact h.dj i j hi hj e x hx2 z
    · obtain ⟨o, ho, _⟩ := (h.bo i hi).dom x hx2
      rw [z] at ho
      cases ho
  have Bj := h.bo j hj
  refine ⟨h.X.grow17 X1 (fun x hx => h.mo j hj x hx), fun i hi => ?_, fun i hi => X1.kp _ _ (h.fd j i hj hi) (h.di i hi), fun i hi => Nat.le_succ_of_le (h.le i hi), fun i hi => (h.d5 i hi).keep X1 (fun a s ea _ => Bj.nl ea), fun i hi => ?_, fun i hi x hx => ?_, fun i l hi hl e x hx => ?_, fun i l hi hl => ?_⟩
  · by_cases e : i = j
    · subst e
      simpa using B
    · simp only [e, if_false]
      exact ((h.bo i hi).keep X1 (fun b hb hb2 => h.dj i j hi hj e b hb hb2) (fun b xs hb => Bj.nt hb)).mono (Nat.le_succ n)
  · obtain ⟨zs, ez⟩ := h.ro i hi
    exact ⟨zs, X1.kp _ _ (Bj.nl ez) ez⟩
  · by_cases e : i = j
    · subst e
      simp only [if_true] at hx
      rcases nF x hx with z | z
      · exact h.mo i hi x z
      · exact .inr (h.X.dm _ z)
    · simp only [e, if_false] at hx
      exact h.mo i hi x hx
  · by_cases e1 : i = j
    · subst e1
      have e2 : l ≠ i := fun z => e z.symm
      simp only [if_true] at hx
      simp only [e2, if_false]
      exact fresh l hl e2 x hx
    · simp only [e1, if_false] at hx
      by_cases e2 : l = j
      · subst e2
        simp only [if_true]
        exact fun hx2 => fresh i hi e1 x hx2 hx
      · simp only [e2, if_false]
        exact h.dj i l hi hl e x hx
  · by_cases e : i = j
    · subst e
      simp only [if_true]
      intro hx
      rcases nF _ hx with z | z
      · exact h.fd i l hi hl z
      · rw [h.di l hl] at z; cases z
    · simp only [e, if_false]
      exact h.fd i l hi hl
/-- a dict has put it down -/
theorem W17.put {j : Nat} {c : List Int} {a : Addr} {s : St5} (h : W17 K Hs H M bk dd rr kk (n + 1) Fp f g kv) (S : S17 M dd rr) (hj : j < 2) (ln : (kv j).length ≤ n) (ea : H a = some (.lst (s.vs.map V.int))) (ok : Ok5 s) (na : ¬ (a = rr 0 ∨ a = rr 1)) (ef : f j = updB (g j) c (sl5 (kk j).1 s)) (eo : ∀ i, i < 2 → i ≠ j → f i = g i) :
    W17 K Hs (upd H (dd j) (.dT (L2.putK (kv j) (kc c) (.ref a)))) M bk dd rr kk (n + 1) Fp f f (fun i => if i = j then L2.putK (kv j) (kc c) (.ref a) else kv i) := by
  have X1 : SameX (· = dd j) H (upd H (dd j) (.dT (L2.putK (kv j) (kc c) (.ref a)))) := (SameX.refl H).mut rfl
  have ed := h.di j hj
  refine ⟨h.X.trans (X1.mono fun b e => by rw [e]; exact S.md j hj), fun i hi => (h.bo i hi).keep X1 (fun b hb e => h.fd i j hi hj (by rw [← e]; exact hb)) (fun b zs hb e => by rw [e, ed] at hb; cases hb), fun i hi => ?_, fun i hi => ?_, fun i hi => ?_, fun i hi => ?_, h.mo, h.dj, h.fd⟩
  · by_cases e : i = j
    · subst e
      simp only [if_true]
      exact upd_same
    · simp only [e, if_false]
      refine lk_mut (fun z => ?_) (h.di i hi)
      have := S.nd
      rcases two_lt hi with rfl | rfl <;> rcases two_lt hj with rfl | rfl
      · exact e rfl
      · exact S.nd z
      · exact S.nd z.symm
      · exact e rfl
  · by_cases e : i = j
    · subst e
      simp only [if_true]
      exact Nat.le_trans (length_putK _ _ _) (by omega)
    · simp only [e, if_false]
      exact h.le i hi
  · have D := (h.d5 i hi).keep X1 (fun a s ea _ e => by rw [e, ed] at ea; cases ea)
    by_cases e : i = j
    · subst e
      simp only [if_true]
      intro c2
      rw [valV_put]
      by_cases ec : kc c2 = kc c
      · rw [if_pos ec]
        have ec := kc_inj ec
        subst ec
        refine ⟨(fun z => nomatch z), fun v hv => ?_⟩
        cases hv
        exact ⟨a, s, rfl, X1.kp _ _ (fun z => by rw [z, ed] at ea; cases ea) ea, ok, by rw [ef]; unfold updB; rw [if_pos rfl], na⟩
      · rw [if_neg ec]
        have e2 : f i c2 = g i c2 := by
          rw [ef]
          unfold updB
          rw [if_neg (fun z => ec (by rw [z]))]
        rw [e2]
        exact D c2
    · simp only [e, if_false]
      rw [eo i hi e]
      exact D
  · obtain ⟨zs, ez⟩ := h.ro i hi
    exact ⟨zs, X1.kp _ _ (fun z => by rw [z, ed] at ez; cases ez) ez⟩
end
section
variable (K : PySem.W.Frag) [HasCls K "Book"] [HasNo K "Book" "look"] [HasNo K "Book" "slots"]
def w17B (K : PySem.W.Frag) (E : XK) : TS :=
  (tSeq (tDrop (tBM0 K "list" (rClear) (tOp (rIx K) (tVar 6) (tVar 11))))
  (tSeq (tDrop (tBM K "list" (rExtend) (tOp (rIx K) (tVar 6) (tVar 11)) (tCons (tVar 8) (tNil))))
  (tSeq (tIfS (tNot (tTru K (tFun (sp_Lright K) [] (fun _ => E) (tCons (tOp (rIx K) (tVar 4) (tVar 11)) (tCons (tOp (rIx K) (tVar 0) (tVar 11)) (tCons (tOp (rIx K) (tVar 5) (tVar 11)) (tCons (tOp (rIx K) (tVar 6) (tVar 11)) (tCons (tVar 9) (tNil))))))))) (tRet (tC (.bl false))) (tNext))
  (tSeq (tIfS (tAnd (tTest (tOp (rSame K) (tVar 7) (tVar 2))) (tNot (tTru K (tFun (sp_Lrefused K) [] (fun _ => E) (tCons (tOp (rIx K) (tVar 4) (tVar 11)) (tCons (tCB (rListOf K) (tCons (tVar 8) (tNil))) (tCons (tVar 9) (tCons (tVar 3) (tNil))))))))) (tRet (tC (.bl false))) (tNext))
  (tSeq (tIfS (tTest (tOp (rNotNo) (tMth "seen" (one (He.ga K "Book") (sp_Book_seen K)) (fun _ => E) (tOp (rIx K) (tVar 4) (tVar 11)) (tCons (tOp (rIx K) (tVar 6) (tVar 11)) (tCons (tVar 9) (tCons (tVar 10) (tNil))))) (tC .non))) (tRet (tC (.bl false))) (tNext))
  (tSeq (tAsg (tFun (sp_Lcontext K) [] (fun _ => E) (tCons (tOp (rIx K) (tVar 0) (tVar 11)) (tCons (tVar 8) (tCons (tVar 9) (tNil))))) (gName 12))
  (sDPut (tOp (rIx K) (tVar 5) (tVar 11)) (tVar 12) (tFun (sp_Lseen K) [] (fun _ => E) (tCons (tDGet2 (tOp (rIx K) (tVar 5) (tVar 11)) (tVar 12) (tLst (tCons (tC (.int 0)) (tCons (tC (.int 0)) (tCons (tC (.int 8388608)) (tCons (tC (.int 0)) (tCons (tC (.int 0)) (tNil)))))))) (tCons (tVar 10) (tNil)))))))))))
theorem w17_body {ll dl bl sl rl c : Addr} {att : Int} {odd : V} {la bk dd rr : Nat → Addr} {kk : Nat → Lk} {n i j : Nat} {Fp : Nat → Addr → Prop} {f : Nat → BkF} {kv : Nat → List (List Key × V)} {M : Addr → Prop} {H0 Hs H : Hp} {ns : List Int} {node bit : Int} {u12 : Option V} {Q : VK} {E : XK} {nx bk0 ct : St → Hp → Prop}
    (S : S17 M dd rr) (W : W17 K Hs H M bk dd rr kk n Fp f f kv) (hj : j < 2) (hn : n ≤ 5000) (ell : H0 ll = some (.lst [.ref (la 0), .ref (la 1)])) (L : ∀ j, j < 2 → LookH H0 (la j) (kk j)) (kok : ∀ j, j < 2 → LkOk (kk j)) (s0 : Same H0 Hs) (nM : ∀ x, M x → H0 x = none)
    (ebl : Hs bl = some (.lst [.ref (bk 0), .ref (bk 1)])) (nbl : ¬ M bl) (esl : Hs sl = some (.lst [.ref (dd 0), .ref (dd 1)])) (nsl : ¬ M sl) (erl : Hs rl = some (.lst [.ref (rr 0), .ref (rr 1)])) (nrl : ¬ M rl)
    (ec : H0 c = some (.lst (ns.map V.int))) (n60 : ns.length ≤ 60) (b0 : 0 ≤ bit) (b1 : bit ≤ 1) (ty : TyW K H0 odd) (bt : btw 0 1 odd = false)
    (q : ∀ u12 Fp f kv H', W17 K Hs H' M bk dd rr kk (n + 1) Fp f f kv → nx [some (.ref ll), some (.ref dl), some (.int att), some odd, some (.ref bl), some (.ref sl), some (.ref rl), some (.int (i : Int)), some (.ref c), some (.int node), some (.int bit), some (.int (j : Int)), u12] H') :
    w17B K E ⟨nx, Q, bk0, ct⟩ [some (.ref ll), some (.ref dl), some (.int att), some odd, some (.ref bl), some (.ref sl), some (.ref rl), some (.int (i : Int)), some (.ref c), some (.int node), some (.int bit), some (.int (j : Int)), u12] H := by
  refine Bx.out ?_
  simp (disch := with_unfolding_all
  have at2 : ∀ (h : Nat → Addr), atI [V.ref (h 0), .ref (h 1)] (j : Int) = some (.ref (h j)) := fun h => by rcases two_lt hj with rfl | rfl <;> rfl
  have ila := at2 la
  have ibk := at2 bk
  have idd := at2 dd
  have irr := at2 rr
  have up : ∀ {H' : Hp}, SameX M Hs H' → Same H0 H' := fun X => SameX.back s0 X nM
  have eblH := W.X.kp _ _ nbl ebl
  have eslH := W.X.kp _ _ nsl esl
  have erlH := W.X.kp _ _ nrl erl
  have ecH := up W.X _ _ ec
  obtain ⟨xs, er⟩ := W.ro j hj
  have ncr : c ≠ rr j := fun z => by have := nM _ (S.mr j hj); rw [← z, ec] at this; cases this
  unfold w17B
  walk_at "gn"
  have W1 := W.row (xs := []) S hj
  have erl1 := W1.X.kp _ _ nrl erl
  have er1 : (upd H (rr j) (.lst [])) (rr j) = some (.lst []) := upd_same
  have ec1 := lk_mut (u := .lst []) ncr ecH
  generalize upd H (rr j) (.lst []) = H1 at W1 er1 ec1 erl1 ⊢
  walk_at "gn"
  refine g_extend er1 ec1 (Nat.le_trans (m := 100) (by rw [List.length_map]; show 0 + _ ≤ 100; omega) (by decide)) ?_
  rw [List.nil_append]
  have W2 := W1.row (xs := ns.map V.int) S hj
  have er2 : (upd H1 (rr j) (.lst (ns.map V.int))) (rr j) = some (.lst (ns.map V.int)) := upd_same
  have erl2 := W2.X.kp _ _ nrl erl
  have ebl2 := W2.X.kp _ _ nbl ebl
  have esl2 := W2.X.kp _ _ nsl esl
  have ell2 := up W2.X _ _ ell
  generalize upd H1 (rr j) (.lst (ns.map V.int)) = H2 at W2 er2 erl2 ebl2 esl2 ell2 ⊢
  clear W1 er1 ec1 erl1 eblH eslH erlH ecH er
  walk_at "gn"
  refine ⟨_, _, _, _, _, rfl, bk j, la j, dd j, rr j, Fp j, _, kk j, f j, n, kv j, ns, node, rfl, rfl, rfl, rfl, rfl, W2.bo j hj, (L j hj).same (up W2.X), kok j hj, W2.di j hj, W2.d5 j hj, er2, n60, fun H3 s3 => ?_⟩
  iterate 3 walk_at "go1"
  refine g_hold17 fun B' hB => ?_
  have ec3 := s3 _ _ (up W2.X _ _ ec)
  have ebl3 := s3 _ _ ebl2
  have rest : ∀ H4, Same H3 H4 → B' ⟨nx, Q, bk0, ct⟩ [some (.ref ll), some (.ref dl), some (.int att), some odd, some (.ref bl), some (.ref sl), some (.ref rl), some (.int (i : Int)), some (.ref c), some (.int node), some (.int bit), some (.int (j : Int)), u12] H4 := by
    intro H4 s4
    subst hB
    have W4 := W2.same (Same.trans s3 s4)
    have S24 := Same.trans s3 s4
    have er4 := S24 _ _ er2
    have erl4 := S24 _ _ erl2
    have ebl4 := S24 _ _ ebl2
    obtain ⟨bx, bl0, bd, eb4⟩ := (W4.bo j hj).in_
    walk_at "gn"
    refine ⟨bk j, rr j, Fp j, kk j, f j, n, ns, node, rfl, rfl, rfl, W4.bo j hj, by omega, kok j hj, sq_of er4, .int, fun w => ?_, fun b' e _ _ Fj H5 X5 nF5 B5 => ?_⟩
    · rw [btw, decide_eq_true b0, decide_eq_true b1] at w
      cases w
    cases e
    have W5 := W4.seen hj X5 nF5 B5
    have fj : (fun i => if i = j then updB (f j) (ctx (kk j).2 ns node) (seenS (f j (ctx (kk j).2 ns node)) bit) else f i) j = updB (f j) (ctx (kk j).2 ns node) (seenS (f j (ctx (kk j).2 ns node)) bit) := by simp
    have fo : ∀ i, i < 2 → i ≠ j → (fun i => if i = j then updB (f j) (ctx (kk j).2 ns node) (seenS (f j (ctx (kk j).2 ns node)) bit) else f i) i = f i := fun i _ e => by simp [e]
    generalize (fun i => if i = j then Fj else Fp i) = Fp5 at W5
    generalize (fun i => if i = j then updB (f j) (ctx (kk j).2 ns node) (seenS (f j (ctx (kk j).2 ns node)) bit) else f i) = f5 at W5 fj fo
    have esl5 := W5.X.kp _ _ nsl esl
    have ell5 := up W5.X _ _ ell
    clear eb4 er4 erl4 ebl4 X5 nF5 B5
    walk_at "gn"
    refine ⟨la j, c, kk j, ns, node, rfl, rfl, rfl, (L j hj).same (up W5.X), kok j hj, up W5.X _ _ ec, by omega, fun p H6 np s6 ep => ?_⟩
    generalize hcx : ctx (kk j).2 ns node = cx at ep fj fo
    have W6 := W5.same s6
    have esl6 := s6 _ _ esl5
    walk_at "gn"
    refine g_dput ?_
    walk_at "gn"
    refine g_dget2 ?_
    walk_at "gn"
    refine ⟨dd j, rfl, .inr ⟨kv j, .inl (W6.di j hj)⟩, ?_⟩
    walk_at "gn"
    rename_i df ndf
    have s7 := same_new (u := .lst [V.int 0, .int 0, .int 8388608, .int 0, .int 0]) (Same.refl H6) ndf
    have edf : (upd H6 df (.lst [V.int 0, .int 0, .int 8388608, .int 0, .int 0])) df = some (.lst (st5.vs.map V.int)) := upd_same
    generalize upd H6 df (.lst [V.int 0, .int 0, .int 8388608, .int 0, .int 0]) = H7 at s7 edf ⊢
    have W7 := W6.same s7
    refine ⟨_, DGet.t (W7.di j hj) (by rw [kc_v]; exact s7 _ _ ep), ?_⟩
    obtain ⟨a5, s5, hv, ea5, ok5, fe⟩ := (W7.d5 j hj).get (c := cx) edf
    rw [hv]
    walk_at "gn"
    refine ⟨a5, s5, bit, rfl, rfl, b0, b1, ok5, ea5, fun l8 H8 nl8 s8 e8 => ?_⟩
    have W8 := W7.same s8
    have esl8 := s8 _ _ (s7 _ _ esl6)
    have ep8 := s8 _ _ (s7 _ _ ep)
    walk_at "gn"
    have kl := W2.le j hj
    refine ⟨dd j, _, rfl, DPut.t (W8.di j hj) (by rw [kc_v]; exact ep8) (Nat.lt_of_le_of_lt (m := 5001) (by omega) (by decide)), ?_⟩
    refine q _ _ _ _ _ (W8.put S hj kl e8 (ok5.step b0 b1) (fun z => ?_) (by rw [fj, fe, sl5_step ok5 b0 b1]) fo)
    rcases z with z | z
    · obtain ⟨xs, ex⟩ := W7.ro 0 (by decide)
      rw [← z, nl8] at ex
      cases ex
    · obtain ⟨xs, ex⟩ := W7.ro 1 (by decide)
      rw [← z, nl8] at ex
      cases ex
  walk_at "gn"
  refine dif (fun c1 => ?_) fun c1 => ?_
  · walk_at "gn"
    rename_i cl ncl
    have s4 := same_new (u := .lst (ns.map V.int)) (Same.refl H3) ncl
    refine ⟨bk j, cl, Fp j, kk j, f j, n, ns, node, rfl, rfl, rfl, (W2.bo j hj).same (Same.trans s3 s4), by omega, kok j hj, upd_same, tyw_same (Same.trans (up W2.X) (Same.trans s3 s4)) ty, bt, fun H4 s5 => ?_⟩
    walk_at "gn"
    exact rest _ (Same.trans s4 s5)
  · walk_at "gn"
    exact rest _ (Same.refl _)
  ) only [↓Bx.eq]
end
/-! k17: walked, and the law -/
def two {α : Type} (a b : α) : Nat → α
  | 0 => a
  | _ + 1 => b
section
variable (K : PySem.W.Frag) [HasCls K "Book"] [HasNo K "Book" "look"] [HasNo K "Book" "slots"]
def F_Lwalked (K : PySem.W.Frag) : V → V → V → V → Hp → VK → XK → Prop := fun x y z u H Q _ => ∃ (ll dl : Addr) (la : Nat → Addr) (kk : Nat → Lk) (ds : List V) (att : Int), x = .ref ll ∧ y = .ref dl ∧ z = .int att ∧ H ll = some (.lst [.ref (la 0), .ref (la 1)]) ∧ (∀ j, j < 2 → LookH H (la j) (kk j)) ∧ (∀ j, j < 2 → LkOk (kk j)) ∧ H dl = some (.lst ds) ∧ (∀ v ∈ ds, DecH H v) ∧ ds.length ≤ 600 ∧ TyW K H u ∧ btw 0 1 u = false ∧ ∀ H', Q (.bl true) H'
abbrev sp_Lwalked (K : PySem.W.Frag) : Sp := on4 (F_Lwalked K)
def t_Lwalked (K : PySem.W.Frag) (E : XK) : TS :=
  tSeq (tAsg (tLst (tCons (tNew (He.ga K "Book") (sp_Book_init K) [] (fun _ => E) (tCons (tOp (rIx K) (tVar 0) (tC (.int 0))) (tNil))) (tCons (tNew (He.ga K "Book") (sp_Book_init K) [] (fun _ => E) (tCons (tOp (rIx K) (tVar 0) (tC (.int 1))) (tNil))) (tNil)))) (gName 4))
  (tSeq (tAsg (tLst (tCons (tDNewT) (tCons (tDNewT) (tNil)))) (gName 5))
  (tSeq (tAsg (tLst (tCons (tLst (tNil)) (tCons (tLst (tNil)) (tNil)))) (gName 6))
  (tSeq (tFor (iEnum K (tCons (tVar 1) (tNil))) (gTup K 2 (gCons (gName 7) (gCons (gTup K 3 (gCons (gName 8) (gCons (gName 9) (gCons (gName 10) (gNil))))) (gNil)))) (tFor (iRng1 (tCons (tC (.int 2)) (tNil))) (gName 11) (tIfS (tOr (tTest (tOp (rSame K) (tVar 11) (tC (.int 0)))) (tTest (tOp (rSame K) (tOp (rRest) (tCB (rLength K) (tCons (tVar 8) (tNil))) (tC (.int 2))) (tC (.int 1))))) (tSeq (tDrop (tBM0 K "list" (rClear) (tOp (rIx K) (tVar 6) (tVar 11))))
  (tSeq (tDrop (tBM K "list" (rExtend) (tOp (rIx K) (tVar 6) (tVar 11)) (tCons (tVar 8) (tNil))))
  (tSeq (tIfS (tNot (tTru K (tFun (sp_Lright K) [] (fun _ => E) (tCons (tOp (rIx K) (tVar 4) (tVar 11)) (tCons (tOp (rIx K) (tVar 0) (tVar 11)) (tCons (tOp (rIx K) (tVar 5) (tVar 11)) (tCons (tOp (rIx K) (tVar 6) (tVar 11)) (tCons (tVar 9) (tNil))))))))) (tRet (tC (.bl false))) (tNext))
  (tSeq (tIfS (tAnd (tTest (tOp (rSame K) (tVar 7) (tVar 2))) (tNot (tTru K (tFun (sp_Lrefused K) [] (fun _ => E) (tCons (tOp (rIx K) (tVar 4) (tVar 11)) (tCons (tCB (rListOf K) (tCons (tVar 8) (tNil))) (tCons (tVar 9) (tCons (tVar 3) (tNil))))))))) (tRet (tC (.bl false))) (tNext))
  (tSeq (tIfS (tTest (tOp (rNotNo) (tMth "seen" (one (He.ga K "Book") (sp_Book_seen K)) (fun _ => E) (tOp (rIx K) (tVar 4) (tVar 11)) (tCons (tOp (rIx K) (tVar 6) (tVar 11)) (tCons (tVar 9) (tCons (tVar 10) (tNil))))) (tC .non))) (tRet (tC (.bl false))) (tNext))
  (tSeq (tAsg (tFun (sp_Lcontext K) [] (fun _ => E) (tCons (tOp (rIx K) (tVar 0) (tVar 11)) (tCons (tVar 8) (tCons (tVar 9) (tNil))))) (gName 12))
  (sDPut (tOp (rIx K) (tVar 5) (tVar 11)) (tVar 12) (tFun (sp_Lseen K) [] (fun _ => E) (tCons (tDGet2 (tOp (rIx K) (tVar 5) (tVar 11)) (tVar 12) (tLst (tCons (tC (.int 0)) (tCons (tC (.int 0)) (tCons (tC (.int 8388608)) (tCons (tC (.int 0)) (tCons (tC (.int 0)) (tNil)))))))) (tCons (tVar 10) (tNil))))))))))) (tNext))))
  (tRet (tC (.bl true))))))
theorem pure_Lwalked {x y z u : V} {H : Hp} {Q : VK} {E : XK} (h : F_Lwalked K x y z u H Q E) : t_Lwalked K E ⟨fun _ H' => Q .non H', Q, fun _ _ => False, fun _ _ => False⟩ [some x, some y, some z, some u, none, none, none, none, none, none, none, none, none] H := by
  refine Bx.out ?_
  simp (disch := with_unfolding_all
  obtain ⟨ll, dl, la, kk, ds, att, rfl, rfl, rfl, ell, L, kok, edl, dec, d600, ty, bt, q⟩ := h
  unfold t_Lwalked
  rw [show ((tSeq (tDrop (tBM0 K "list" (rClear) (tOp (rIx K) (tVar 6) (tVar 11))))
  (tSeq (tDrop (tBM K "list" (rExtend) (tOp (rIx K) (tVar 6) (tVar 11)) (tCons (tVar 8) (tNil))))
  (tSeq (tIfS (tNot (tTru K (tFun (sp_Lright K) [] (fun _ => E) (tCons (tOp (rIx K) (tVar 4) (tVar 11)) (tCons (tOp (rIx K) (tVar 0) (tVar 11)) (tCons (tOp (rIx K) (tVar 5) (tVar 11)) (tCons (tOp (rIx K) (tVar 6) (tVar 11)) (tCons (tVar 9) (tNil))))))))) (tRet (tC (.bl false))) (tNext))
  (tSeq (tIfS (tAnd (tTest (tOp (rSame K) (tVar 7) (tVar 2))) (tNot (tTru K (tFun (sp_Lrefused K) [] (fun _ => E) (tCons (tOp (rIx K) (tVar 4) (tVar 11)) (tCons (tCB (rListOf K) (tCons (tVar 8) (tNil))) (tCons (tVar 9) (tCons (tVar 3) (tNil))))))))) (tRet (tC (.bl false))) (tNext))
  (tSeq (tIfS (tTest (tOp (rNotNo) (tMth "seen" (one (He.ga K "Book") (sp_Book_seen K)) (fun _ => E) (tOp (rIx K) (tVar 4) (tVar 11)) (tCons (tOp (rIx K) (tVar 6) (tVar 11)) (tCons (tVar 9) (tCons (tVar 10) (tNil))))) (tC .non))) (tRet (tC (.bl false))) (tNext))
  (tSeq (tAsg (tFun (sp_Lcontext K) [] (fun _ => E) (tCons (tOp (rIx K) (tVar 0) (tVar 11)) (tCons (tVar 8) (tCons (tVar 9) (tNil))))) (gName 12))
  (sDPut (tOp (rIx K) (tVar 5) (tVar 11)) (tVar 12) (tFun (sp_Lseen K) [] (fun _ => E) (tCons (tDGet2 (tOp (rIx K) (tVar 5) (tVar 11)) (tVar 12) (tLst (tCons (tC (.int 0)) (tCons (tC (.int 0)) (tCons (tC (.int 8388608)) (tCons (tC (.int 0)) (tCons (tC (.int 0)) (tNil)))))))) (tCons (tVar 10) (tNil)))))))))))) = w17B K E from rfl]
  generalize hBq : w17B K E = B
  walk_at "gn"
  intro b0 bx0 nb0 nbx0 nbb0
  have nb0' : upd H bx0 (.own b0) b0 = none := by rw [upd_ne nbb0.symm]; exact nb0
  have S0 := same_new (u := .ins (He.ga K "Book") bx0 []) (same_new (u := .own b0) (Same.refl H) nbx0) nb0'
  walk_at "gn"
  refine ⟨b0, bx0, la 0, kk 0, rfl, rfl, upd_same, (L 0 (by decide)).same S0, fun F0 H1 g0 x1 B0 => ⟨rfl, ?_⟩⟩
  have S1 : Same H H1 := SameX.back1 S0 x1 nb0
  have f0 : ∀ x, F0 x → H x = none := fun x hx => by
    rcases g0 x hx with z | z
    · rw [z]; exact nb0
    · exact upd_none (upd_none z)
  have ell1 := S1 _ _ ell
  clear S0 nb0' g0 x1 nbx0 nbb0
  walk_at "gn"
  intro b1 bx1 nb1 nbx1 nbb1
  have nb1' : upd H1 bx1 (.own b1) b1 = none := by rw [upd_ne nbb1.symm]; exact nb1
  have S0 := same_new (u := .ins (He.ga K "Book") bx1 []) (same_new (u := .own b1) (Same.refl H1) nbx1) nb1'
  walk_at "gn"
  refine ⟨b1, bx1, la 1, kk 1, rfl, rfl, upd_same, (L 1 (by decide)).same (Same.trans S1 S0), fun F1 H2 g1 x2 B1 => ⟨rfl, ?_⟩⟩
  have S12 : Same H1 H2 := SameX.back1 S0 x2 nb1
  have f1 : ∀ x, F1 x → H1 x = none := fun x hx => by
    rcases g1 x hx with z | z
    · rw [z]; exact nb1
    · exact upd_none (upd_none z)
  have S2 := Same.trans S1 S12
  have dj01 : ∀ x, F0 x → ¬ F1 x := fun x h0 h1 => by
    obtain ⟨o, ho, _⟩ := B0.dom x h0
    rw [f1 x h1] at ho
    cases ho
  have B0 := B0.same S12
  clear S0 nb1' g1 x2 nbx1 nbb1
  walk_at "gn"
  rename_i bl nbl
  have s3 := same_new (u := .lst [.ref b0, .ref b1]) (Same.refl H2) nbl
  have ebl : (upd H2 bl (.lst [.ref b0, .ref b1])) bl = some (.lst [.ref b0, .ref b1]) := upd_same
  have B03 := B0.same s3
  have B13 := B1.same s3
  have S3 := Same.trans S2 s3
  have s13 := Same.trans S12 s3
  generalize upd H2 bl (.lst [.ref b0, .ref b1]) = H3 at s3 ebl B03 B13 S3 s13 ⊢
  refine g_dnewT fun d0 nd0 => ?_
  walk_at "gn"
  refine g_dnewT fun d1 nd1 => ?_
  walk_at "gn"
  rename_i sl nsl r0 nr0 r1 nr1 rl nrl
  have n01 : d0 ≠ d1 := fun z => by rw [← z, upd_same] at nd1; cases nd1
  have nd1H : H3 d1 = none := upd_none nd1
  have nr0H : H3 r0 = none := Same.free (H := H3) (by walk_at "sm") nr0
  have nr1H : H3 r1 = none := Same.free (H := H3) (by walk_at "sm") nr1
  generalize hB : upd _ rl _ = Hs
  have s4 : Same H3 Hs := by rw [← hB]; walk_at "sm"
  have esl : Hs sl = some (.lst [.ref d0, .ref d1]) := by rw [← hB]; walk_at "lk"
  have erl : Hs rl = some (.lst [.ref r0, .ref r1]) := by rw [← hB]; exact upd_same
  have ed0 : Hs d0 = some (.dT []) := by rw [← hB]; walk_at "lk"
  have ed1 : Hs d1 = some (.dT []) := by rw [← hB]; walk_at "lk"
  have er0 : Hs r0 = some (.lst []) := by rw [← hB]; walk_at "lk"
  have er1 : Hs r1 = some (.lst []) := by rw [← hB]; walk_at "lk"
  clear hB nsl nr0 nr1 nrl nd1
  have ebl := s4 _ _ ebl
  have B0s := B03.same s4
  have B1s := B13.same s4
  have Ss := Same.trans S3 s4
  have notM : ∀ {c : Addr} {v w : V}, Hs c = some (.lst [v, w]) → ¬ (c = r0 ∨ c = r1 ∨ c = d0 ∨ c = d1 ∨ F0 c ∨ F1 c) := fun {c v w} e z => by
    rcases z with z | z | z | z | z | z
    · rw [z, er0] at e; cases e
    · rw [z, er1] at e; cases e
    · rw [z, ed0] at e; cases e
    · rw [z, ed1] at e; cases e
    · exact B0s.nl e z
    · exact B1s.nl e z
  have nM : ∀ c, (c = r0 ∨ c = r1 ∨ c = d0 ∨ c = d1 ∨ F0 c ∨ F1 c) → H c = none := fun c z => by
    rcases z with z | z | z | z | z | z
    · rw [z]; exact S3.free nr0H
    · rw [z]; exact S3.free nr1H
    · rw [z]; exact S3.free nd0
    · rw [z]; exact S3.free nd1H
    · exact f0 c z
    · exact S1.free (f1 c z)
  have Sx : S17 (fun c => c = r0 ∨ c = r1 ∨ c = d0 ∨ c = d1 ∨ F0 c ∨ F1 c) (two d0 d1) (two r0 r1) := ⟨fun j hj => by rcases two_lt hj with rfl | rfl <;> simp [two], fun j hj => by rcases two_lt hj with rfl | rfl <;> simp [two], n01⟩
  have nF0 : ∀ {c : Addr}, H3 c = none → ¬ F0 c := fun e z => by
    obtain ⟨o, ho, _⟩ := B03.dom _ z
    rw [e] at ho
    cases ho
  have nF1 : ∀ {c : Addr}, H3 c = none → ¬ F1 c := fun e z => by
    obtain ⟨o, ho, _⟩ := B13.dom _ z
    rw [e] at ho
    cases ho
  have W0 : W17 K Hs Hs (fun c => c = r0 ∨ c = r1 ∨ c = d0 ∨ c = d1 ∨ F0 c ∨ F1 c) (two b0 b1) (two d0 d1) (two r0 r1) kk 0 (two F0 F1) (fun i => fresh (kk i).1) (fun i => fresh (kk i).1) (fun _ => []) := by
    refine ⟨SameX.refl _, fun j hj => ?_, fun j hj => ?_, fun j hj => Nat.le_refl _, fun j hj c => ⟨fun _ => rfl, (fun v z => nomatch z)⟩, fun j hj => ?_, fun j hj x hx => ?_, fun i j hi hj e x hx => ?_, fun i j hi hj => ?_⟩
    · rcases two_lt hj with rfl | rfl
      · exact B0s
      · exact B1s
    · rcases two_lt hj with rfl | rfl
      · exact ed0
      · exact ed1
    · rcases two_lt hj with rfl | rfl
      · exact ⟨_, er0⟩
      · exact ⟨_, er1⟩
    · rcases two_lt hj with rfl | rfl
      · exact .inl (.inr (.inr (.inr (.inr (.inl hx)))))
      · exact .inl (.inr (.inr (.inr (.inr (.inr hx)))))
    · rcases two_lt hi with rfl | rfl <;> rcases two_lt hj with rfl | rfl
      · exact absurd rfl e
      · exact dj01 x hx
      · exact fun h0 => dj01 x h0 hx
      · exact absurd rfl e
    · rcases two_lt hi with rfl | rfl <;> rcases two_lt hj with rfl | rfl
      · exact nF0 nd0
      · exact nF0 nd1H
      · exact nF1 nd0
      · exact nF1 nd1H
  generalize hM : (fun c => c = r0 ∨ c = r1 ∨ c = d0 ∨ c = d1 ∨ F0 c ∨ F1 c) = M at Sx W0
  have nM : ∀ x, M x → H x = none := by rw [← hM]; exact nM
  have nbl : ¬ M bl := by rw [← hM]; exact notM ebl
  have nsl : ¬ M sl := by rw [← hM]; exact notM esl
  have nrl : ¬ M rl := by rw [← hM]; exact notM erl
  clear notM hM nF0 nF1 B0s B1s B03 B13 B0 B1 dj01 f0 f1
  have up : ∀ {H' : Hp}, SameX M Hs H' → Same H H' := fun X => SameX.back Ss X nM
  refine for_E3 (sq_of (Ss _ _ edl)) (fun i σ H4 => ∃ u7 u8 u9 u10 u11 u12 Fp f kv, σ = [some (.ref ll), some (.ref dl), some (.int att), some u, some (.ref bl), some (.ref sl), some (.ref rl), u7, u8, u9, u10, u11, u12] ∧ W17 K Hs H4 M (two b0 b1) (two d0 d1) (two r0 r1) kk (2 * i) Fp f f kv ∧ i ≤ 600) ?_ ?_ ?_ ?_
  · exact ⟨_, _, _, _, _, _, _, _, _, rfl, W0, by decide⟩
  · rintro i σ H4 ⟨u7, u8, u9, u10, u11, u12, Fp, f, kv, rfl, W, -⟩
    exact sq_of (up W.X _ _ edl)
  · rintro i x σ H4 T hx nT ⟨u7, u8, u9, u10, u11, u12, Fp, f, kv, rfl, W, i6⟩
    have hi := (List.getElem?_eq_some_iff.mp hx).1
    obtain ⟨t, c, ns, node, bit, rfl, et, ec, n60, p0, p1⟩ := dec x (List.mem_of_getElem? hx)
    refine ⟨t, .ref c, .int node, .int bit, rfl, up W.X _ _ et, ?_⟩
    have W4 := W.same (same_new (u := .tup [.int (i : Int), .ref t]) (Same.refl H4) nT)
    generalize upd H4 T (.tup [.int (i : Int), .ref t]) = H5 at W4 ⊢
    walk_at "gn"
    refine for_R1 (k := 2) rfl (by decide) (fun j σ H6 => ∃ u11 u12 Fp f kv, σ = [some (.ref ll), some (.ref dl), some (.int att), some u, some (.ref bl), some (.ref sl), some (.ref rl), some (.int (i : Int)), some (.ref c), some (.int node), some (.int bit), u11, u12] ∧ W17 K Hs H6 M (two b0 b1) (two d0 d1) (two r0 r1) kk (2 * i + j) Fp f f kv) ⟨_, _, _, _, _, rfl, W4⟩ ?_ ?_
    · rintro j σ H6 hj ⟨u11, u12, Fp2, f2, kv2, rfl, W6⟩
      have ec6 := up W6.X _ _ ec
      have bd : ∀ {nx bk0 ct : St → Hp → Prop}, (∀ u12 Fp f kv H', W17 K Hs H' M (two b0 b1) (two d0 d1) (two r0 r1) kk (2 * i + j + 1) Fp f f kv → nx [some (.ref ll), some (.ref dl), some (.int att), some u, some (.ref bl), some (.ref sl), some (.ref rl), some (.int (i : Int)), some (.ref c), some (.int node), some (.int bit), some (.int (j : Int)), u12] H') →
          B ⟨nx, Q, bk0, ct⟩ [some (.ref ll), some (.ref dl), some (.int att), some u, some (.ref bl), some (.ref sl), some (.ref rl), some (.int (i : Int)), some (.ref c), some (.int node), some (.int bit), some (.int (j : Int)), u12] H6 := fun qq => by
        rw [← hBq]
        exact w17_body K Sx W6 hj (by omega) ell L kok Ss nM ebl nbl esl nsl erl nrl ec n60 p0 p1 ty bt qq
      walk_at "gn"
      refine dif (fun c1 => ?_) fun c1 => ?_
      · walk_at "gn"
        exact bd fun u12 Fp f kv H' W' => ⟨_, _, _, _, _, rfl, W'⟩
      · walk_at "gn"
        rw [List.length_map]
        refine dif (fun c2 => ?_) fun c2 => ?_
        · walk_at "gn"
          exact bd fun u12 Fp f kv H' W' => ⟨_, _, _, _, _, rfl, W'⟩
        · walk_at "gn"
          exact ⟨_, _, _, _, _, rfl, W6.mono (by omega)⟩
    · rintro σ H6 ⟨u11, u12, Fp2, f2, kv2, rfl, W6⟩
      exact ⟨_, _, _, _, _, _, _, _, _, rfl, W6, by omega⟩
  · rintro σ H4 ⟨u7, u8, u9, u10, u11, u12, Fp, f, kv, rfl, W, -⟩
    walk_at "gn"
    exact q _
  ) only [↓Bx.eq]
end
section
variable (K : PySem.W.Frag)
def F_law (K : PySem.W.Frag) : V → Hp → VK → XK → Prop := fun x H Q _ => ∃ (a : Addr) (ns : List Int), x = .ref a ∧ SqL K H a (ns.map V.int) ∧ ns.length ≤ 63 ∧ ∀ H', Q (.bl true) H'
abbrev sp_law (K : PySem.W.Frag) : Sp := on1 (F_law K)
def t_law (K : PySem.W.Frag) (E : XK) : TS :=
  tSeq (tAsg (tOp (rRest) (tFun (sp_Lcell17 K) [] (fun _ => E) (tCons (tVar 0) (tCons (tC (.int 0)) (tNil)))) (tC (.int 1000000007))) (gName 1))
  (tSeq (tAsg (tOp (rIx K) (tLst (tCons (tC (.int 256)) (tCons (tC (.int 3)) (tCons (tC (.int 2)) (tCons (tC (.int 17)) (tNil)))))) (tOp (rRest) (tVar 1) (tC (.int 4)))) (gName 2))
  (tSeq (tAsg (tLc (iList K (tSl (rSlL K) (tVar 0) (tPart (tC (.int 3))) (tPart (tC (.int 23))))) (gName 10) (tYes) (tOp (rRest) (tOp (rTimes) (tOp (rRest) (tVar 10) (tVar 2)) (tC (.int 85))) (tC (.int 256))) [10]) (gName 3))
  (tSeq (tAsg (tOp (rRest) (tOp (rFloor) (tVar 1) (tC (.int 4))) (tOp (rPlus K) (tCB (rLength K) (tCons (tVar 3) (tNil))) (tC (.int 1)))) (gName 4))
  (tSeq (tAsg (tOp (rRest) (tOp (rFloor) (tVar 1) (tC (.int 200))) (tOp (rPlus K) (tCB (rLength K) (tCons (tVar 3) (tNil))) (tC (.int 1)))) (gName 5))
  (tSeq (tAsg (tLst (tCons (tSl (rSlL K) (tVar 3) (tNoPart) (tPart (tVar 4))) (tCons (tSl (rSlL K) (tVar 3) (tPart (tVar 4)) (tPart (tVar 5))) (tCons (tSl (rSlL K) (tVar 3) (tPart (tCB (rGreatest K) (tCons (tVar 4) (tCons (tVar 5) (tNil))))) (tNoPart)) (tNil))))) (gName 6))
  (tSeq (tAsg (tLst (tCons (tFun (sp_Llook K) [] (fun _ => E) (tCons (tOp (rRest) (tFun (sp_Lcell17 K) [] (fun _ => E) (tCons (tVar 0) (tCons (tC (.int 1)) (tNil)))) (tC (.int 1000000007))) (tNil))) (tCons (tFun (sp_Llook K) [] (fun _ => E) (tCons (tOp (rRest) (tFun (sp_Lcell17 K) [] (fun _ => E) (tCons (tVar 0) (tCons (tC (.int 2)) (tNil)))) (tC (.int 1000000007))) (tNil))) (tNil)))) (gName 7))
  (tSeq (tAsg (tFun (sp_Ldecisions K) [] (fun _ => E) (tCons (tSl (rSlL K) (tVar 6) (tPart (tOp (rRest) (tOp (rFloor) (tVar 1) (tC (.int 50))) (tC (.int 3)))) (tNoPart)) (tNil))) (gName 8))
  (tSeq (tIfS (tNot (tTru K (tFun (sp_Llong K) [] (fun _ => E) (tCons (tOp (rIx K) (tVar 7) (tC (.int 0))) (tCons (tFun (sp_Lbits K) [] (fun _ => E) (tCons (tVar 0) (tCons (tC (.int 700)) (tNil)))) (tNil)))))) (tRet (tC (.bl false))) (tNext))
  (tSeq (tAsg (tOp (rIx K) (tLst (tCons (tC (.bl true)) (tCons (tC (.bl false)) (tCons (tC (.int 2)) (tCons (tUn rNeg (tC (.int 1))) (tCons (tC .non) (tCons (tC (.str "0")) (tCons (tLst (tCons (tC (.int 1)) (tNil))) (tNil))))))))) (tOp (rRest) (tOp (rFloor) (tVar 1) (tC (.int 9))) (tC (.int 7)))) (gName 9))
  (tRet (tFun (sp_Lwalked K) [] (fun _ => E) (tCons (tVar 7) (tCons (tVar 8) (tCons (tOp (rRest) (tOp (rFloor) (tVar 1) (tC (.int 11))) (tCB (rGreatest K) (tCons (tC (.int 1)) (tCons (tCB (rLength K) (tCons (tVar 8) (tNil))) (tNil))))) (tCons (tVar 9) (tNil))))))))))))))))
theorem pure_law {x : V} {H : Hp} {Q : VK} {E : XK} (h : F_law K x H Q E) : t_law K E ⟨fun _ H' => Q .non H', Q, fun _ _ => False, fun _ _ => False⟩ [some x, none, none, none, none, none, none, none, none, none, none] H := by
  refine Bx.out ?_
  simp (disch := with_unfolding_all
  obtain ⟨a, ns, rfl, hS, hl, q⟩ := h
  unfold t_law
  walk_at "gn"
  refine ⟨a, ns, 0, rfl, rfl, by decide, hS, fun v0 => ?_⟩
  walk_at "gn"
  obtain ⟨pk, hpk, pk0⟩ : ∃ pk, v0 % 1000000007 = pk ∧ 0 ≤ pk := ⟨_, rfl, by omega⟩
  rw [hpk]
  rename_i fl nfl
  have s1 := same_new (u := .lst [V.int 256, .int 3, .int 2, .int 17]) (Same.refl H) nfl
  obtain ⟨w, hw, w0⟩ : ∃ w : Int, atI [V.int 256, .int 3, .int 2, .int 17] (pk % 4) = some (.int w) ∧ 0 < w := by
    have : pk % 4 = 0 ∨ pk % 4 = 1 ∨ pk % 4 = 2 ∨ pk % 4 = 3 := by omega
    rcases this with e | e | e | e <;> rw [e] <;> exact ⟨_, rfl, by decide⟩
  refine g_ixL (sq_of upd_same) hw ?_
  generalize upd H fl (.lst [V.int 256, .int 3, .int 2, .int 17]) = H1 at s1 ⊢
  have hS1 := s1.seq hS
  walk_at "gn"
  rename_i sp nsp
  obtain ⟨cu, ecu, cl⟩ : ∃ cu : List Int, cutV (ns.map V.int) (some 3) (some 23) = cu.map V.int ∧ cu.length ≤ 20 := ⟨_, cutV_map _ _ _ _, by
    have e : cutL ns (some 3) (some 23) = (ns.drop 3).take (23 - 3) := cutL_both ns 3 23
    rw [e, List.length_take]
    omega⟩
  rw [ecu]
  have s2 := same_new (u := .lst (cu.map V.int)) (Same.refl H1) nsp
  have esp : (upd H1 sp (.lst (cu.map V.int))) sp = some (.lst (cu.map V.int)) := upd_same
  generalize upd H1 sp (.lst (cu.map V.int)) = H2 at s2 esp ⊢
  refine lc_LI (sq_of esp) (fun z => .int (z % w * 85 % 256)) (by omega) (fun z hz D H3 Q3 s3 k3 => ?_) fun sm H3 nsm s3 esm => ?_
  · walk_at "gn"
    refine g_rest w0 ?_
    walk_at "gn"
    exact k3 _ (Same.refl _)
  obtain ⟨tx, etx, tl⟩ : ∃ tx : List Int, (cu.map fun z => V.int (z % w * 85 % 256)) = tx.map V.int ∧ tx.length ≤ 20 := ⟨cu.map fun z => z % w * 85 % 256, by rw [List.map_map]; rfl, by rw [List.length_map]; exact cl⟩
  rw [etx] at esm
  have S3 := Same.trans s1 (Same.trans s2 s3)
  clear s1 s2 s3 esp hS1 ecu etx
  walk_at "gn"
  rw [List.length_map]
  refine g_rest (by omega) ?_
  generalize pk / 4 % ((tx.length : Int) + 1) = cut
  walk_at "gn"
  rw [List.length_map]
  refine g_rest (by omega) ?_
  generalize pk / 200 % ((tx.length : Int) + 1) = last
  walk_at "gn"
  rename_i t1 nt1 t2 nt2 t3 nt3 tt ntt
  have cut3 : ∀ lo hi, ∃ t : List Int, cutV (tx.map V.int) lo hi = t.map V.int ∧ t.length ≤ 20 := fun lo hi => ⟨_, cutV_map _ _ _ _, Nat.le_trans (cutL_len _ _ _) tl⟩
  obtain ⟨x1, e1, l1⟩ := cut3 none (some cut)
  obtain ⟨x2, e2, l2⟩ := cut3 (some cut) (some last)
  obtain ⟨x3, e3, l3⟩ := cut3 (some (if last > cut then last else cut)) none
  rw [e1] at nt2 nt3 ntt ⊢
  rw [e2] at nt3 ntt ⊢
  rw [e3] at ntt ⊢
  generalize hB : upd _ tt _ = H4
  have s4 : Same H3 H4 := by rw [← hB]; walk_at "sm"
  have ett : H4 tt = some (.lst [.ref t1, .ref t2, .ref t3]) := by rw [← hB]; exact upd_same
  have et1 : H4 t1 = some (.lst (x1.map V.int)) := by rw [← hB]; walk_at "lk"
  have et2 : H4 t2 = some (.lst (x2.map V.int)) := by rw [← hB]; walk_at "lk"
  have et3 : H4 t3 = some (.lst (x3.map V.int)) := by rw [← hB]; walk_at "lk"
  clear hB nt1 nt2 nt3 ntt e1 e2 e3 cut3 esm
  have S4 := Same.trans S3 s4
  refine ⟨a, ns, 1, rfl, rfl, by decide, S4.seq hS, fun v1 => ?_⟩
  walk_at "gn"
  refine ⟨_, rfl, fun l0 k0 H5 ok0 nl0 s5 L0 => ?_⟩
  walk_at "gn"
  refine ⟨a, ns, 2, rfl, rfl, by decide, (Same.trans S4 s5).seq hS, fun v2 => ?_⟩
  walk_at "gn"
  refine ⟨_, rfl, fun la1 k1 H6 ok1 nl1 s6 L1 => ?_⟩
  have s46 := Same.trans s5 s6
  have S6 := Same.trans S4 s46
  have ett6 := s46 _ _ ett
  walk_at "gn"
  rename_i ll nll sl nsl
  obtain ⟨tas, etas, tl3, tmem⟩ : ∃ tas : List Addr, cutV [V.ref t1, .ref t2, .ref t3] (some (pk / 50 % 3)) none = tas.map V.ref ∧ tas.length ≤ 3 ∧ ∀ b ∈ tas, b = t1 ∨ b = t2 ∨ b = t3 := ⟨cutL [t1, t2, t3] (some (pk / 50 % 3)) none, cutV_map V.ref [t1, t2, t3] _ _, cutL_len _ _ _, fun b hb => by
    have := cutL_sub _ _ _ hb
    simpa using this⟩
  rw [etas]
  generalize hB : upd _ sl _ = H7
  have s7 : Same H6 H7 := by rw [← hB]; walk_at "sm"
  have esl : H7 sl = some (.lst (tas.map V.ref)) := by rw [← hB]; exact upd_same
  have ell : H7 ll = some (.lst [.ref l0, .ref la1]) := by rw [← hB]; walk_at "lk"
  clear hB nll nsl ett ett6 etas
  have s47 := Same.trans s46 s7
  refine ⟨sl, tas, rfl, esl, tl3, fun b hb => ?_, fun dl H8 ds ndl s8 edl dec d600 => ?_⟩
  · rcases tmem b hb with rfl | rfl | rfl
    · exact ⟨x1, s47 _ _ et1, l1⟩
    · exact ⟨x2, s47 _ _ et2, l2⟩
    · exact ⟨x3, s47 _ _ et3, l3⟩
  have s78 := Same.trans s7 s8
  have S8 := Same.trans S6 s78
  have ell8 := s8 _ _ ell
  have L08 := L0.same (Same.trans s6 s78)
  have L18 := L1.same s78
  clear et1 et2 et3 esl tmem s47
  walk_at "gn"
  refine ⟨a, ns, rfl, rfl, S8.seq hS, hl, fun bl H9 bs nbl s9 ebl bz b700 => ?_⟩
  walk_at "gn"
  refine ⟨l0, bl, k0, bs, rfl, rfl, L08.same s9, ok0, ebl, bz, b700, fun H10 s10 => ?_⟩
  walk_at "gn"
  rename_i o1 no1 o7 no7
  generalize hB : upd _ o7 _ = H11
  have s11 : Same H10 H11 := by rw [← hB]; walk_at "sm"
  have eo7 : H11 o7 = some (.lst [.bl true, .bl false, .int 2, .int (-1), .non, .str "0", .ref o1]) := by rw [← hB]; exact upd_same
  have eo1 : H11 o1 = some (.lst (([1] : List Int).map V.int)) := by rw [← hB]; walk_at "lk"
  clear hB no1 no7
  obtain ⟨v, hv, ty, bt⟩ : ∃ v, atI [V.bl true, .bl false, .int 2, .int (-1), .non, .str "0", .ref o1] (pk / 9 % 7) = some v ∧ TyW K H11 v ∧ btw 0 1 v = false := by
    have : pk / 9 % 7 = 0 ∨ pk / 9 % 7 = 1 ∨ pk / 9 % 7 = 2 ∨ pk / 9 % 7 = 3 ∨ pk / 9 % 7 = 4 ∨ pk / 9 % 7 = 5 ∨ pk / 9 % 7 = 6 := by omega
    rcases this with e | e | e | e | e | e | e <;> rw [e]
    · exact ⟨_, rfl, ty_bl, rfl⟩
    · exact ⟨_, rfl, ty_bl, rfl⟩
    · exact ⟨_, rfl, .int, by decide⟩
    · exact ⟨_, rfl, .int, by decide⟩
    · exact ⟨_, rfl, ty_non, rfl⟩
    · exact ⟨_, rfl, ty_str, rfl⟩
    · exact ⟨_, rfl, ty_lst eo1, rfl⟩
  refine g_ixL (sq_of eo7) hv ?_
  have s811 := Same.trans s9 (Same.trans s10 s11)
  have edl11 := s811 _ _ edl
  have ell11 := s811 _ _ ell8
  walk_at "gn"
  refine g_rest (by split <;> omega) ?_
  walk_at "gn"
  exact ⟨ll, dl, two l0 la1, two k0 k1, ds, _, rfl, rfl, rfl, ell11, fun j hj => (by rcases two_lt hj with rfl | rfl; exact L08.same s811; exact L18.same s811), fun j hj => (by rcases two_lt hj with rfl | rfl; exact ok0; exact ok1), edl11, fun x hx => (dec x hx).same s811, d600, ty, bt, q⟩
  ) only [↓Bx.eq]
theorem law_here (K : PySem.W.Frag) (H : Hp) (a : Addr) (ns : List Int) (hl : ns.length ≤ 63) (hS : SqL K H a (ns.map V.int)) : sp_law K [.ref a] H (fun v _ => v = .bl true) fun _ _ _ => False :=
  ⟨.ref a, rfl, a, ns, rfl, hS, hl, fun _ => rfl⟩
end
end Fo
namespace Fo
open PySem PySem.Spec PyProof.Rows L2
section
variable {P : Program} {w : World} {K : PySem.W.Frag} {mg : Str → Option Value} {base h : Heap}
theorem cb_is_whole (KX : K.In h) (G : h.Ns mainGlobals mg) (c : SaysX fa fn xf K) : Cb false P w K mg base 1 (He.fAd K ("is_whole", none)) ["thing"] [] (sp_is_whole K) := by
  refine Bx.out ?_
  simp (disch := with_unfolding_all
  exact (
  cb_of (T := t_is_whole K) (c.def_ 0 rfl) sc_is_whole (fun vs H Q E h => by
    obtain ⟨_, rfl, _⟩ := h
    rfl) (fun _ _ _ _ _ _ us hl => match us, hl with | [_], _ => rfl)
   (fun cdv A outer s H E hr => by
    have nd := sc_is_whole.nd
    have ho := out_def (cxD_takes (n := false) (P := P) (w := w) (K := K) (mg := mg) (base := base) (N := N_is_whole) (qual := "is_whole") (st := s_is_whole) (f := He.fAd K ("is_whole", none)) (cdv := cdv) (A := A) (outer := outer) (s := s) (H := H) (E := E))
    have tk := cxD_takes (n := false) (P := P) (w := w) (K := K) (mg := mg) (base := base) (N := N_is_whole) (qual := "is_whole") (st := s_is_whole) (f := He.fAd K ("is_whole", none)) (cdv := cdv) (A := A) (outer := outer) (s := s) (H := H) (E := E)
    have pz := cxD_passes (n := false) (P := P) (w := w) (K := K) (mg := mg) (base := base) (N := N_is_whole) (qual := "is_whole") (st := s_is_whole) (f := He.fAd K ("is_whole", none)) (cdv := cdv) (A := A) (outer := outer) (s := s) (H := H) (E := E)
    exact pss_one (ps_ret (pe_and (pe_callB c_isi (by rfl) (He.free_ok KX G (c.fact 13 rfl)) (by decide +kernel) (pa_cons (pv 0) (pa_cons (pe_gty (He.free_ok KX G (c.fact 14 rfl)) (by decide +kernel)) (pa_nil)))) (pe_one (pe_not (pe_callB c_isi (by rfl) (He.free_ok KX G (c.fact 13 rfl)) (by decide +kernel) (pa_cons (pv 0) (pa_cons (pe_gty (He.free_ok KX G (c.fact 15 rfl)) (by decide +kernel)) (pa_nil)))))))))
   (fun vs H Q E h => by
    obtain ⟨_, rfl, h⟩ := h
    haveI : SaysC K := ⟨c⟩
    exact pure_is_whole K h))
  ) only [↓Bx.eq]
theorem cb_Even_init (KX : K.In h) (G : h.Ns mainGlobals mg) (c : SaysX fa fn xf K) : Cb false P w K mg base 1 (He.fAd K ("Even", some "__init__")) ["self"] [] (sp_Even_init K) := by
  refine Bx.out ?_
  simp (disch := with_unfolding_all
  exact (
  cb_of (T := t_Even_init K) (c.def_ 3 rfl) sc_Even_init (fun vs H Q E h => by
    obtain ⟨_, rfl, _⟩ := h
    rfl) (fun _ _ _ _ _ _ us hl => match us, hl with | [_], _ => rfl)
   (fun cdv A outer s H E hr => by
    have nd := sc_Even_init.nd
    have ho := out_def (cxD_takes (n := false) (P := P) (w := w) (K := K) (mg := mg) (base := base) (N := N_Even_init) (qual := "Even.__init__") (st := s_Even_init) (f := He.fAd K ("Even", some "__init__")) (cdv := cdv) (A := A) (outer := outer) (s := s) (H := H) (E := E))
    have tk := cxD_takes (n := false) (P := P) (w := w) (K := K) (mg := mg) (base := base) (N := N_Even_init) (qual := "Even.__init__") (st := s_Even_init) (f := He.fAd K ("Even", some "__init__")) (cdv := cdv) (A := A) (outer := outer) (s := s) (H := H) (E := E)
    have pz := cxD_passes (n := false) (P := P) (w := w) (K := K) (mg := mg) (base := base) (N := N_Even_init) (qual := "Even.__init__") (st := s_Even_init) (f := He.fAd K ("Even", some "__init__")) (cdv := cdv) (A := A) (outer := outer) (s := s) (H := H) (E := E)
    exact pss_cons (ps_fld (pv 0) (pe_int) rfl)
       (pss_one (ps_fld (pv 0) (pe_int) rfl)))
   (fun vs H Q E h => by
    obtain ⟨_, rfl, h⟩ := h
    haveI : SaysC K := ⟨c⟩
    exact pure_Even_init K h))
  ) only [↓Bx.eq]
theorem cb_Even_chance (KX : K.In h) (G : h.Ns mainGlobals mg) (c : SaysX fa fn xf K) : Cb false P w K mg base 1 (He.fAd K ("Even", some "chance")) ["self"] [] (sp_Even_chance K) := by
  refine Bx.out ?_
  simp (disch := with_unfolding_all
  exact (
  cb_of (T := t_Even_chance K) (c.def_ 4 rfl) sc_Even_chance (fun vs H Q E h => by
    obtain ⟨_, rfl, _⟩ := h
    rfl) (fun _ _ _ _ _ _ us hl => match us, hl with | [_], _ => rfl)
   (fun cdv A outer s H E hr => by
    have nd := sc_Even_chance.nd
    have ho := out_def (cxD_takes (n := false) (P := P) (w := w) (K := K) (mg := mg) (base := base) (N := N_Even_chance) (qual := "Even.chance") (st := s_Even_chance) (f := He.fAd K ("Even", some "chance")) (cdv := cdv) (A := A) (outer := outer) (s := s) (H := H) (E := E))
    have tk := cxD_takes (n := false) (P := P) (w := w) (K := K) (mg := mg) (base := base) (N := N_Even_chance) (qual := "Even.chance") (st := s_Even_chance) (f := He.fAd K ("Even", some "chance")) (cdv := cdv) (A := A) (outer := outer) (s := s) (H := H) (E := E)
    have pz := cxD_passes (n := false) (P := P) (w := w) (K := K) (mg := mg) (base := base) (N := N_Even_chance) (qual := "Even.chance") (st := s_Even_chance) (f := He.fAd K ("Even", some "chance")) (cdv := cdv) (A := A) (outer := outer) (s := s) (H := H) (E := E)
    exact pss_one (ps_ret (pe_op o_floor (pe_op o_times (pe_op o_plus (pe_op o_times (pe_int) (pe_fld (pv 0) rfl)) (pe_int)) (pe_gint (He.int_ok KX G (c.fact 16 rfl)))) (pe_op o_plus (pe_op o_times (pe_int) (pe_op o_plus (pe_fld (pv 0) rfl) (pe_fld (pv 0) rfl))) (pe_int)))))
   (fun vs H Q E h => by
    obtain ⟨_, rfl, h⟩ := h
    haveI : SaysC K := ⟨c⟩
    exact pure_Even_chance K h))
  ) only [↓Bx.eq]
theorem cb_Quick_init (KX : K.In h) (G : h.Ns mainGlobals mg) (c : SaysX fa fn xf K) : Cb false P w K mg base 1 (He.fAd K ("Quick", some "__init__")) ["self"] [] (sp_Quick_init K) := by
  refine Bx.out ?_
  simp (disch := with_unfolding_all
  exact (
  cb_of (T := t_Quick_init K) (c.def_ 6 rfl) sc_Quick_init (fun vs H Q E h => by
    obtain ⟨_, rfl, _⟩ := h
    rfl) (fun _ _ _ _ _ _ us hl => match us, hl with | [_], _ => rfl)
   (fun cdv A outer s H E hr => by
    have nd := sc_Quick_init.nd
    have ho := out_def (cxD_takes (n := false) (P := P) (w := w) (K := K) (mg := mg) (base := base) (N := N_Quick_init) (qual := "Quick.__init__") (st := s_Quick_init) (f := He.fAd K ("Quick", some "__init__")) (cdv := cdv) (A := A) (outer := outer) (s := s) (H := H) (E := E))
    have tk := cxD_takes (n := false) (P := P) (w := w) (K := K) (mg := mg) (base := base) (N := N_Quick_init) (qual := "Quick.__init__") (st := s_Quick_init) (f := He.fAd K ("Quick", some "__init__")) (cdv := cdv) (A := A) (outer := outer) (s := s) (H := H) (E := E)
    have pz := cxD_passes (n := false) (P := P) (w := w) (K := K) (mg := mg) (base := base) (N := N_Quick_init) (qual := "Quick.__init__") (st := s_Quick_init) (f := He.fAd K ("Quick", some "__init__")) (cdv := cdv) (A := A) (outer := outer) (s := s) (H := H) (E := E)
    exact pss_one (ps_fld (pv 0) (pe_op o_floor (pe_gint (He.int_ok KX G (c.fact 16 rfl))) (pe_int)) rfl))
   (fun vs H Q E h => by
    obtain ⟨_, rfl, h⟩ := h
    haveI : SaysC K := ⟨c⟩
    exact pure_Quick_init K h))
  ) only [↓Bx.eq]
theorem cb_Quick_chance (KX : K.In h) (G : h.Ns mainGlobals mg) (c : SaysX fa fn xf K) : Cb false P w K mg base 1 (He.fAd K ("Quick", some "chance")) ["self"] [] (sp_Quick_chance K) := by
  refine Bx.out ?_
  simp (disch := with_unfolding_all
  exact (
  cb_of (T := t_Quick_chance K) (c.def_ 7 rfl) sc_Quick_chance (fun vs H Q E h => by
    obtain ⟨_, rfl, _⟩ := h
    rfl) (fun _ _ _ _ _ _ us hl => match us, hl with | [_], _ => rfl)
   (fun cdv A outer s H E hr => by
    have nd := sc_Quick_chance.nd
    have ho := out_def (cxD_takes (n := false) (P := P) (w := w) (K := K) (mg := mg) (base := base) (N := N_Quick_chance) (qual := "Quick.chance") (st := s_Quick_chance) (f := He.fAd K ("Quick", some "chance")) (cdv := cdv) (A := A) (outer := outer) (s := s) (H := H) (E := E))
    have tk := cxD_takes (n := false) (P := P) (w := w) (K := K) (mg := mg) (base := base) (N := N_Quick_chance) (qual := "Quick.chance") (st := s_Quick_chance) (f := He.fAd K ("Quick", some "chance")) (cdv := cdv) (A := A) (outer := outer) (s := s) (H := H) (E := E)
    have pz := cxD_passes (n := false) (P := P) (w := w) (K := K) (mg := mg) (base := base) (N := N_Quick_chance) (qual := "Quick.chance") (st := s_Quick_chance) (f := He.fAd K ("Quick", some "chance")) (cdv := cdv) (A := A) (outer := outer) (s := s) (H := H) (E := E)
    exact pss_one (ps_ret (pe_fld (pv 0) rfl)))
   (fun vs H Q E h => by
    obtain ⟨_, rfl, h⟩ := h
    haveI : SaysC K := ⟨c⟩
    exact pure_Quick_chance K h))
  ) only [↓Bx.eq]
theorem cb_Run_init (KX : K.In h) (G : h.Ns mainGlobals mg) (c : SaysX fa fn xf K) : Cb false P w K mg base 1 (He.fAd K ("Run", some "__init__")) ["self"] [] (sp_Run_init K) := by
  refine Bx.out ?_
  simp (disch := with_unfolding_all
  exact (
  cb_of (T := t_Run_init K) (c.def_ 9 rfl) sc_Run_init (fun vs H Q E h => by
    obtain ⟨_, rfl, _⟩ := h
    rfl) (fun _ _ _ _ _ _ us hl => match us, hl with | [_], _ => rfl)
   (fun cdv A outer s H E hr => by
    have nd := sc_Run_init.nd
    have ho := out_def (cxD_takes (n := false) (P := P) (w := w) (K := K) (mg := mg) (base := base) (N := N_Run_init) (qual := "Run.__init__") (st := s_Run_init) (f := He.fAd K ("Run", some "__init__")) (cdv := cdv) (A := A) (outer := outer) (s := s) (H := H) (E := E))
    have tk := cxD_takes (n := false) (P := P) (w := w) (K := K) (mg := mg) (base := base) (N := N_Run_init) (qual := "Run.__init__") (st := s_Run_init) (f := He.fAd K ("Run", some "__init__")) (cdv := cdv) (A := A) (outer := outer) (s := s) (H := H) (E := E)
    have pz := cxD_passes (n := false) (P := P) (w := w) (K := K) (mg := mg) (base := base) (N := N_Run_init) (qual := "Run.__init__") (st := s_Run_init) (f := He.fAd K ("Run", some "__init__")) (cdv := cdv) (A := A) (outer := outer) (s := s) (H := H) (E := E)
    exact pss_cons (ps_fld (pv 0) (pe_int) rfl)
       (pss_one (ps_fld (pv 0) (pe_int) rfl)))
   (fun vs H Q E h => by
    obtain ⟨_, rfl, h⟩ := h
    haveI : SaysC K := ⟨c⟩
    exact pure_Run_init K h))
  ) only [↓Bx.eq]
theorem cb_Run_chance (KX : K.In h) (G : h.Ns mainGlobals mg) (c : SaysX fa fn xf K) : Cb false P w K mg base 1 (He.fAd K ("Run", some "chance")) ["self"] [] (sp_Run_chance K) := by
  refine Bx.out ?_
  simp (disch := with_unfolding_all
  exact (
  cb_of (T := t_Run_chance K) (c.def_ 10 rfl) sc_Run_chance (fun vs H Q E h => by
    obtain ⟨_, rfl, _⟩ := h
    rfl) (fun _ _ _ _ _ _ us hl => match us, hl with | [_], _ => rfl)
   (fun cdv A outer s H E hr => by
    have nd := sc_Run_chance.nd
    have ho := out_def (cxD_takes (n := false) (P := P) (w := w) (K := K) (mg := mg) (base := base) (N := N_Run_chance) (qual := "Run.chance") (st := s_Run_chance) (f := He.fAd K ("Run", some "chance")) (cdv := cdv) (A := A) (outer := outer) (s := s) (H := H) (E := E))
    have tk := cxD_takes (n := false) (P := P) (w := w) (K := K) (mg := mg) (base := base) (N := N_Run_chance) (qual := "Run.chance") (st := s_Run_chance) (f := He.fAd K ("Run", some "chance")) (cdv := cdv) (A := A) (outer := outer) (s := s) (H := H) (E := E)
    have pz := cxD_passes (n := false) (P := P) (w := w) (K := K) (mg := mg) (base := base) (N := N_Run_chance) (qual := "Run.chance") (st := s_Run_chance) (f := He.fAd K ("Run", some "chance")) (cdv := cdv) (A := A) (outer := outer) (s := s) (H := H) (E := E)
    exact pss_cons (ps_set (i := 1) nd rfl (by first | exact Or.inl rfl | exact Or.inr rfl) (pe_op o_floor (pe_op o_times (pe_op o_plus (pe_op o_times (pe_int) (pe_fld (pv 0) rfl)) (pe_int)) (pe_gint (He.int_ok KX G (c.fact 16 rfl)))) (pe_op o_plus (pe_op o_times (pe_int) (pe_fld (pv 0) rfl)) (pe_int))))
       (pss_cons (ps_if (pt_cmpR (o_same hr.units) (pe_fld (pv 0) rfl) (pe_int) (nomark _)) (pss_one (ps_ret (pv 1))) (pss_nil))
       (pss_one (ps_ret (pe_op o_minus (pe_gint (He.int_ok KX G (c.fact 16 rfl))) (pv 1))))))
   (fun vs H Q E h => by
    obtain ⟨_, rfl, h⟩ := h
    haveI : SaysC K := ⟨c⟩
    exact pure_Run_chance K h))
  ) only [↓Bx.eq]
theorem cb_context_of (KX : K.In h) (G : h.Ns mainGlobals mg) (c : SaysX fa fn xf K) : Cb false P w K mg base 1 (He.fAd K ("context_of", none)) ["look", "signs", "node"] [] (sp_context_of K) := by
  refine Bx.out ?_
  simp (disch := with_unfolding_all
  exact (
  cb_of (T := t_context_of K) (c.def_ 13 rfl) sc_context_of (fun vs H Q E h => by
    obtain ⟨_, _, _, rfl, _⟩ := h
    rfl) (fun _ _ _ _ _ _ us hl => match us, hl with | [_, _, _], _ => rfl)
   (fun cdv A outer s H E hr => by
    have nd := sc_context_of.nd
    have ho := out_def (cxD_takes (n := false) (P := P) (w := w) (K := K) (mg := mg) (base := base) (N := N_context_of) (qual := "context_of") (st := s_context_of) (f := He.fAd K ("context_of", none)) (cdv := cdv) (A := A) (outer := outer) (s := s) (H := H) (E := E))
    have tk := cxD_takes (n := false) (P := P) (w := w) (K := K) (mg := mg) (base := base) (N := N_context_of) (qual := "context_of") (st := s_context_of) (f := He.fAd K ("context_of", none)) (cdv := cdv) (A := A) (outer := outer) (s := s) (H := H) (E := E)
    have pz := cxD_passes (n := false) (P := P) (w := w) (K := K) (mg := mg) (base := base) (N := N_context_of) (qual := "context_of") (st := s_context_of) (f := He.fAd K ("context_of", none)) (cdv := cdv) (A := A) (outer := outer) (s := s) (H := H) (E := E)
    exact pss_cons (ps_set (i := 3) nd rfl (by first | exact Or.inl rfl | exact Or.inr rfl) (pe_lst (pa_nil)))
       (pss_cons (ps_for pz rfl (pi_tup (pe_ix ix_seq (pv 0) (pe_int) (fun _ _ => rfl))) (pg_name (i := 4) nd rfl (by first | exact Or.inl rfl | exact Or.inr rfl)) (pss_one (ps_if (pt_cmpR o_le (pv 4) (pe_callB c_len (by rfl) (He.free_ok KX G (c.fact 17 rfl)) (by decide +kernel) (pa_cons (pv 1) (pa_nil))) (nomark _)) (pss_one (ps_expr (pe_bm PySem.F.plainAttrs_list PySem.F.slot_list_append PySem.F.type_list_append mt_append (pv 3) (pa_cons (pe_ix ix_seq (pv 1) (pe_op o_minus (pe_callB c_len (by rfl) (He.free_ok KX G (c.fact 17 rfl)) (by decide +kernel) (pa_cons (pv 1) (pa_nil))) (pv 4)) (fun _ _ => rfl)) (pa_nil))))) (pss_one (ps_expr (pe_bm PySem.F.plainAttrs_list PySem.F.slot_list_append PySem.F.type_list_append mt_append (pv 3) (pa_cons (pe_gint (He.int_ok KX G (c.fact 19 rfl))) (pa_nil))))))))
       (pss_one (ps_ret (pe_callTy c_tuple (by rfl) (He.free_ok KX G (c.fact 18 rfl)) (by decide +kernel) (pa_cons (pe_op o_plus (pv 3) (pe_lst (pa_cons (pv 2) (pa_nil)))) (pa_nil)))))))
   (fun vs H Q E h => by
    obtain ⟨_, _, _, rfl, h⟩ := h
    haveI : SaysC K := ⟨c⟩
    exact pure_context_of K h))
  ) only [↓Bx.eq]
theorem cb_Book_init (KX : K.In h) (G : h.Ns mainGlobals mg) (c : SaysX fa fn xf K) : Cb false P w K mg base 1 (He.fAd K ("Book", some "__init__")) ["self", "look"] [] (sp_Book_init K) := by
  refine Bx.out ?_
  simp (disch := with_unfolding_all
  exact (
  cb_of (T := t_Book_init K) (c.def_ 14 rfl) sc_Book_init (fun vs H Q E h => by
    obtain ⟨_, _, rfl, _⟩ := h
    rfl) (fun _ _ _ _ _ _ us hl => match us, hl with | [_, _], _ => rfl)
   (fun cdv A outer s H E hr => by
    have nd := sc_Book_init.nd
    have ho := out_def (cxD_takes (n := false) (P := P) (w := w) (K := K) (mg := mg) (base := base) (N := N_Book_init) (qual := "Book.__init__") (st := s_Book_init) (f := He.fAd K ("Book", some "__init__")) (cdv := cdv) (A := A) (outer := outer) (s := s) (H := H) (E := E))
    have tk := cxD_takes (n := false) (P := P) (w := w) (K := K) (mg := mg) (base := base) (N := N_Book_init) (qual := "Book.__init__") (st := s_Book_init) (f := He.fAd K ("Book", some "__init__")) (cdv := cdv) (A := A) (outer := outer) (s := s) (H := H) (E := E)
    have pz := cxD_passes (n := false) (P := P) (w := w) (K := K) (mg := mg) (base := base) (N := N_Book_init) (qual := "Book.__init__") (st := s_Book_init) (f := He.fAd K ("Book", some "__init__")) (cdv := cdv) (A := A) (outer := outer) (s := s) (H := H) (E := E)
    exact pss_cons (ps_fld (pv 0) (pv 1) rfl)
       (pss_one (ps_fld (pv 0) (pe_dnewT) rfl)))
   (fun vs H Q E h => by
    obtain ⟨_, _, rfl, h⟩ := h
    haveI : SaysC K := ⟨c⟩
    exact pure_Book_init K h))
  ) only [↓Bx.eq]
theorem cb_Lcell17 (KX : K.In h) (G : h.Ns mainGlobals mg) (c : SaysX fa fn xf K) : Cb false P w K mg base 1 (He.fAd K ("_law_cell_at", none)) ["_law_script", "_law_k"] [] (sp_Lcell17 K) := by
  refine Bx.out ?_
  simp (disch := with_unfolding_all
  exact (
  cb_of (T := t_Lcell17 K) (c.def_ 17 rfl) sc_Lcell17 (fun vs H Q E h => by
    obtain ⟨_, _, rfl, _⟩ := h
    rfl) (fun _ _ _ _ _ _ us hl => match us, hl with | [_, _], _ => rfl)
   (fun cdv A outer s H E hr => by
    have nd := sc_Lcell17.nd
    have ho := out_def (cxD_takes (n := false) (P := P) (w := w) (K := K) (mg := mg) (base := base) (N := N_Lcell17) (qual := "_law_cell_at") (st := s_Lcell17) (f := He.fAd K ("_law_cell_at", none)) (cdv := cdv) (A := A) (outer := outer) (s := s) (H := H) (E := E))
    have tk := cxD_takes (n := false) (P := P) (w := w) (K := K) (mg := mg) (base := base) (N := N_Lcell17) (qual := "_law_cell_at") (st := s_Lcell17) (f := He.fAd K ("_law_cell_at", none)) (cdv := cdv) (A := A) (outer := outer) (s := s) (H := H) (E := E)
    have pz := cxD_passes (n := false) (P := P) (w := w) (K := K) (mg := mg) (base := base) (N := N_Lcell17) (qual := "_law_cell_at") (st := s_Lcell17) (f := He.fAd K ("_law_cell_at", none)) (cdv := cdv) (A := A) (outer := outer) (s := s) (H := H) (E := E)
    exact pss_cons (ps_if (pt_cmpR o_lt (pv 1) (pe_callB c_len (by rfl) (He.free_ok KX G (c.fact 17 rfl)) (by decide +kernel) (pa_cons (pv 0) (pa_nil))) (nomark _)) (pss_one (ps_ret (pe_ix ix_seq (pv 0) (pv 1) (fun _ _ => rfl)))) (pss_nil))
       (pss_one (ps_ret (pe_int))))
   (fun vs H Q E h => by
    obtain ⟨_, _, rfl, h⟩ := h
    haveI : SaysC K := ⟨c⟩
    exact pure_Lcell17 K h))
  ) only [↓Bx.eq]
theorem cb_Lwhole (KX : K.In h) (G : h.Ns mainGlobals mg) (c : SaysX fa fn xf K) : Cb false P w K mg base 1 (He.fAd K ("_law_whole", none)) ["_law_found"] [] (sp_Lwhole K) := by
  refine Bx.out ?_
  simp (disch := with_unfolding_all
  exact (
  cb_of (T := t_Lwhole K) (c.def_ 18 rfl) sc_Lwhole (fun vs H Q E h => by
    obtain ⟨_, rfl, _⟩ := h
    rfl) (fun _ _ _ _ _ _ us hl => match us, hl with | [_], _ => rfl)
   (fun cdv A outer s H E hr => by
    have nd := sc_Lwhole.nd
    have ho := out_def (cxD_takes (n := false) (P := P) (w := w) (K := K) (mg := mg) (base := base) (N := N_Lwhole) (qual := "_law_whole") (st := s_Lwhole) (f := He.fAd K ("_law_whole", none)) (cdv := cdv) (A := A) (outer := outer) (s := s) (H := H) (E := E))
    have tk := cxD_takes (n := false) (P := P) (w := w) (K := K) (mg := mg) (base := base) (N := N_Lwhole) (qual := "_law_whole") (st := s_Lwhole) (f := He.fAd K ("_law_whole", none)) (cdv := cdv) (A := A) (outer := outer) (s := s) (H := H) (E := E)
    have pz := cxD_passes (n := false) (P := P) (w := w) (K := K) (mg := mg) (base := base) (N := N_Lwhole) (qual := "_law_whole") (st := s_Lwhole) (f := He.fAd K ("_law_whole", none)) (cdv := cdv) (A := A) (outer := outer) (s := s) (H := H) (E := E)
    exact pss_one (ps_ret (pe_and (pe_callB c_isi (by rfl) (He.free_ok KX G (c.fact 13 rfl)) (by decide +kernel) (pa_cons (pv 0) (pa_cons (pe_gty (He.free_ok KX G (c.fact 14 rfl)) (by decide +kernel)) (pa_nil)))) (pe_one (pe_not (pe_callB c_isi (by rfl) (He.free_ok KX G (c.fact 13 rfl)) (by decide +kernel) (pa_cons (pv 0) (pa_cons (pe_gty (He.free_ok KX G (c.fact 15 rfl)) (by decide +kernel)) (pa_nil)))))))))
   (fun vs H Q E h => by
    obtain ⟨_, rfl, h⟩ := h
    haveI : SaysC K := ⟨c⟩
    exact pure_Lwhole K h))
  ) only [↓Bx.eq]
theorem cb_Lplaces (KX : K.In h) (G : h.Ns mainGlobals mg) (c : SaysX fa fn xf K) : Cb false P w K mg base 1 (He.fAd K ("_law_places", none)) ["_law_cell"] [] (sp_Lplaces K) := by
  refine Bx.out ?_
  simp (disch := with_unfolding_all
  exact (
  cb_of (T := t_Lplaces K) (c.def_ 19 rfl) sc_Lplaces (fun vs H Q E h => by
    obtain ⟨_, rfl, _⟩ := h
    rfl) (fun _ _ _ _ _ _ us hl => match us, hl with | [_], _ => rfl)
   (fun cdv A outer s H E hr => by
    have nd := sc_Lplaces.nd
    have ho := out_def (cxD_takes (n := false) (P := P) (w := w) (K := K) (mg := mg) (base := base) (N := N_Lplaces) (qual := "_law_places") (st := s_Lplaces) (f := He.fAd K ("_law_places", none)) (cdv := cdv) (A := A) (outer := outer) (s := s) (H := H) (E := E))
    have tk := cxD_takes (n := false) (P := P) (w := w) (K := K) (mg := mg) (base := base) (N := N_Lplaces) (qual := "_law_places") (st := s_Lplaces) (f := He.fAd K ("_law_places", none)) (cdv := cdv) (A := A) (outer := outer) (s := s) (H := H) (E := E)
    have pz := cxD_passes (n := false) (P := P) (w := w) (K := K) (mg := mg) (base := base) (N := N_Lplaces) (qual := "_law_places") (st := s_Lplaces) (f := He.fAd K ("_law_places", none)) (cdv := cdv) (A := A) (outer := outer) (s := s) (H := H) (E := E)
    exact pss_cons (ps_set (i := 1) nd rfl (by first | exact Or.inl rfl | exact Or.inr rfl) (pe_lst (pa_nil)))
       (pss_cons (ps_for pz rfl (pi_range2 (by rfl) (He.free_ok KX G (c.fact 20 rfl)) (pa_cons (pe_int) (pa_cons (pe_int) (pa_nil)))) (pg_name (i := 2) nd rfl (by first | exact Or.inl rfl | exact Or.inr rfl)) (pss_cons (ps_if (PW.pt (pw_and (pt_cmpR (o_same hr.units) (pe_op o_rest (pv 0) (pe_int)) (pe_int) (nomark _)) (pw_and1 (pt_cmpR o_lt (pe_callB c_len (by rfl) (He.free_ok KX G (c.fact 17 rfl)) (by decide +kernel) (pa_cons (pv 1) (pa_nil))) (pe_int) (nomark _))))) (pss_one (ps_expr (pe_bm PySem.F.plainAttrs_list PySem.F.slot_list_append PySem.F.type_list_append mt_append (pv 1) (pa_cons (pv 2) (pa_nil))))) (pss_nil))
       (pss_one (ps_set (i := 0) nd rfl (by first | exact Or.inl rfl | exact Or.inr rfl) (pe_op o_floor (pv 0) (pe_int))))))
       (pss_one (ps_ret (pv 1)))))
   (fun vs H Q E h => by
    obtain ⟨_, rfl, h⟩ := h
    haveI : SaysC K := ⟨c⟩
    exact pure_Lplaces K h))
  ) only [↓Bx.eq]
theorem cb_Lseen (KX : K.In h) (G : h.Ns mainGlobals mg) (c : SaysX fa fn xf K) : Cb false P w K mg base 1 (He.fAd K ("_law_seen", none)) ["_law_state", "_law_bit"] [] (sp_Lseen K) := by
  refine Bx.out ?_
  simp (disch := with_unfolding_all
  exact (
  cb_of (T := t_Lseen K) (c.def_ 21 rfl) sc_Lseen (fun vs H Q E h => by
    obtain ⟨_, _, rfl, _⟩ := h
    rfl) (fun _ _ _ _ _ _ us hl => match us, hl with | [_, _], _ => rfl)
   (fun cdv A outer s H E hr => by
    have nd := sc_Lseen.nd
    have ho := out_def (cxD_takes (n := false) (P := P) (w := w) (K := K) (mg := mg) (base := base) (N := N_Lseen) (qual := "_law_seen") (st := s_Lseen) (f := He.fAd K ("_law_seen", none)) (cdv := cdv) (A := A) (outer := outer) (s := s) (H := H) (E := E))
    have tk := cxD_takes (n := false) (P := P) (w := w) (K := K) (mg := mg) (base := base) (N := N_Lseen) (qual := "_law_seen") (st := s_Lseen) (f := He.fAd K ("_law_seen", none)) (cdv := cdv) (A := A) (outer := outer) (s := s) (H := H) (E := E)
    have pz := cxD_passes (n := false) (P := P) (w := w) (K := K) (mg := mg) (base := base) (N := N_Lseen) (qual := "_law_seen") (st := s_Lseen) (f := He.fAd K ("_law_seen", none)) (cdv := cdv) (A := A) (outer := outer) (s := s) (H := H) (E := E)
    exact pss_cons (ps_set (i := 2) nd rfl (by first | exact Or.inl rfl | exact Or.inr rfl) (pe_lst (pa_cons (pe_op o_minus (pe_op o_plus (pe_ix ix_seq (pv 0) (pe_int) (fun _ _ => rfl)) (pe_int)) (pv 1)) (pa_cons (pe_op o_plus (pe_ix ix_seq (pv 0) (pe_int) (fun _ _ => rfl)) (pv 1)) (pa_nil)))))
       (pss_cons (ps_if (pt_cmpR o_gt (pe_op o_plus (pe_ix ix_seq (pv 2) (pe_int) (fun _ _ => rfl)) (pe_ix ix_seq (pv 2) (pe_int) (fun _ _ => rfl))) (pe_int) (nomark _)) (pss_one (ps_set (i := 2) nd rfl (by first | exact Or.inl rfl | exact Or.inr rfl) (pe_lst (pa_cons (pe_op o_floor (pe_op o_plus (pe_ix ix_seq (pv 2) (pe_int) (fun _ _ => rfl)) (pe_int)) (pe_int)) (pa_cons (pe_op o_floor (pe_op o_plus (pe_ix ix_seq (pv 2) (pe_int) (fun _ _ => rfl)) (pe_int)) (pe_int)) (pa_nil)))))) (pss_nil))
       (pss_cons (ps_set (i := 3) nd rfl (by first | exact Or.inl rfl | exact Or.inr rfl) (pe_op o_minus (pe_ix ix_seq (pv 0) (pe_int) (fun _ _ => rfl)) (pe_op o_floor (pe_ix ix_seq (pv 0) (pe_int) (fun _ _ => rfl)) (pe_int))))
       (pss_cons (ps_if (pt_cmpR (o_same hr.units) (pv 1) (pe_int) (nomark _)) (pss_one (ps_set (i := 3) nd rfl (by first | exact Or.inl rfl | exact Or.inr rfl) (pe_op o_plus (pe_ix ix_seq (pv 0) (pe_int) (fun _ _ => rfl)) (pe_op o_floor (pe_op o_minus (pe_int) (pe_ix ix_seq (pv 0) (pe_int) (fun _ _ => rfl))) (pe_int))))) (pss_nil))
       (pss_cons (ps_set (i := 4) nd rfl (by first | exact Or.inl rfl | exact Or.inr rfl) (pe_int))
       (pss_cons (ps_if (PW.pt (pw_and (pt_cmpR o_gt (pe_ix ix_seq (pv 0) (pe_int) (fun _ _ => rfl)) (pe_int) (nomark _)) (pw_and1 (pt_cmpR (o_same hr.units) (pe_ix ix_seq (pv 0) (pe_int) (fun _ _ => rfl)) (pv 1) (nomark _))))) (pss_one (ps_set (i := 4) nd rfl (by first | exact Or.inl rfl | exact Or.inr rfl) (pe_callB (c_min rfl) (by rfl) (He.free_ok KX G (c.fact 21 rfl)) (by decide +kernel) (pa_cons (pe_int) (pa_cons (pe_op o_plus (pe_ix ix_seq (pv 0) (pe_int) (fun _ _ => rfl)) (pe_int)) (pa_nil)))))) (pss_nil))
       (pss_one (ps_ret (pe_op o_plus (pv 2) (pe_lst (pa_cons (pe_callB (c_min rfl) (by rfl) (He.free_ok KX G (c.fact 21 rfl)) (by decide +kernel) (pa_cons (pe_op o_minus (pe_int) (pe_int)) (pa_cons (pe_callB (c_max rfl) (by rfl) (He.free_ok KX G (c.fact 22 rfl)) (by decide +kernel) (pa_cons (pe_int) (pa_cons (pv 3) (pa_nil)))) (pa_nil)))) (pa_cons (pv 1) (pa_cons (pv 4) (pa_nil))))))))))))))
   (fun vs H Q E h => by
    obtain ⟨_, _, rfl, h⟩ := h
    haveI : SaysC K := ⟨c⟩
    exact pure_Lseen K h))
  ) only [↓Bx.eq]
theorem cb_Ldue (KX : K.In h) (G : h.Ns mainGlobals mg) (c : SaysX fa fn xf K) : Cb false P w K mg base 1 (He.fAd K ("_law_due", none)) ["_law_look_here", "_law_state"] [] (sp_Ldue K) := by
  refine Bx.out ?_
  simp (disch := with_unfolding_all
  exact (
  cb_of (T := t_Ldue K) (c.def_ 22 rfl) sc_Ldue (fun vs H Q E h => by
    obtain ⟨_, _, rfl, _⟩ := h
    rfl) (fun _ _ _ _ _ _ us hl => match us, hl with | [_, _], _ => rfl)
   (fun cdv A outer s H E hr => by
    have nd := sc_Ldue.nd
    have ho := out_def (cxD_takes (n := false) (P := P) (w := w) (K := K) (mg := mg) (base := base) (N := N_Ldue) (qual := "_law_due") (st := s_Ldue) (f := He.fAd K ("_law_due", none)) (cdv := cdv) (A := A) (outer := outer) (s := s) (H := H) (E := E))
    have tk := cxD_takes (n := false) (P := P) (w := w) (K := K) (mg := mg) (base := base) (N := N_Ldue) (qual := "_law_due") (st := s_Ldue) (f := He.fAd K ("_law_due", none)) (cdv := cdv) (A := A) (outer := outer) (s := s) (H := H) (E := E)
    have pz := cxD_passes (n := false) (P := P) (w := w) (K := K) (mg := mg) (base := base) (N := N_Ldue) (qual := "_law_due") (st := s_Ldue) (f := He.fAd K ("_law_due", none)) (cdv := cdv) (A := A) (outer := outer) (s := s) (H := H) (E := E)
    exact pss_cons (ps_if (pt_cmpR (o_same hr.units) (pe_ix ix_seq (pv 0) (pe_int) (fun _ _ => rfl)) (pe_str) (nomark _)) (pss_one (ps_ret (pe_op o_floor (pe_op o_times (pe_op o_plus (pe_op o_times (pe_int) (pe_ix ix_seq (pv 1) (pe_int) (fun _ _ => rfl))) (pe_int)) (pe_int)) (pe_op o_plus (pe_op o_times (pe_int) (pe_op o_plus (pe_ix ix_seq (pv 1) (pe_int) (fun _ _ => rfl)) (pe_ix ix_seq (pv 1) (pe_int) (fun _ _ => rfl)))) (pe_int))))) (pss_nil))
       (pss_cons (ps_if (pt_cmpR (o_same hr.units) (pe_ix ix_seq (pv 0) (pe_int) (fun _ _ => rfl)) (pe_str) (nomark _)) (pss_one (ps_ret (pe_ix ix_seq (pv 1) (pe_int) (fun _ _ => rfl)))) (pss_nil))
       (pss_cons (ps_set (i := 2) nd rfl (by first | exact Or.inl rfl | exact Or.inr rfl) (pe_op o_floor (pe_op o_times (pe_op o_plus (pe_op o_times (pe_int) (pe_ix ix_seq (pv 1) (pe_int) (fun _ _ => rfl))) (pe_int)) (pe_int)) (pe_op o_plus (pe_op o_times (pe_int) (pe_ix ix_seq (pv 1) (pe_int) (fun _ _ => rfl))) (pe_int))))
       (pss_cons (ps_if (pt_cmpR (o_same hr.units) (pe_ix ix_seq (pv 1) (pe_int) (fun _ _ => rfl)) (pe_int) (nomark _)) (pss_one (ps_ret (pv 2))) (pss_nil))
       (pss_one (ps_ret (pe_op o_minus (pe_int) (pv 2))))))))
   (fun vs H Q E h => by
    obtain ⟨_, _, rfl, h⟩ := h
    haveI : SaysC K := ⟨c⟩
    exact pure_Ldue K h))
  ) only [↓Bx.eq]
theorem cb_Ldecisions (KX : K.In h) (G : h.Ns mainGlobals mg) (c : SaysX fa fn xf K) : Cb false P w K mg base 1 (He.fAd K ("_law_decisions", none)) ["_law_texts"] [] (sp_Ldecisions K) := by
  refine Bx.out ?_
  simp (disch := with_unfolding_all
  exact (
  cb_of (T := t_Ldecisions K) (c.def_ 23 rfl) sc_Ldecisions (fun vs H Q E h => by
    obtain ⟨_, rfl, _⟩ := h
    rfl) (fun _ _ _ _ _ _ us hl => match us, hl with | [_], _ => rfl)
   (fun cdv A outer s H E hr => by
    have nd := sc_Ldecisions.nd
    have ho := out_def (cxD_takes (n := false) (P := P) (w := w) (K := K) (mg := mg) (base := base) (N := N_Ldecisions) (qual := "_law_decisions") (st := s_Ldecisions) (f := He.fAd K ("_law_decisions", none)) (cdv := cdv) (A := A) (outer := outer) (s := s) (H := H) (E := E))
    have tk := cxD_takes (n := false) (P := P) (w := w) (K := K) (mg := mg) (base := base) (N := N_Ldecisions) (qual := "_law_decisions") (st := s_Ldecisions) (f := He.fAd K ("_law_decisions", none)) (cdv := cdv) (A := A) (outer := outer) (s := s) (H := H) (E := E)
    have pz := cxD_passes (n := false) (P := P) (w := w) (K := K) (mg := mg) (base := base) (N := N_Ldecisions) (qual := "_law_decisions") (st := s_Ldecisions) (f := He.fAd K ("_law_decisions", none)) (cdv := cdv) (A := A) (outer := outer) (s := s) (H := H) (E := E)
    exact pss_cons (ps_set (i := 1) nd rfl (by first | exact Or.inl rfl | exact Or.inr rfl) (pe_lst (pa_nil)))
       (pss_cons (ps_for pz rfl (pi_list (pv 0)) (pg_name (i := 2) nd rfl (by first | exact Or.inl rfl | exact Or.inr rfl)) (pss_cons (ps_for pz rfl (pi_range1 (by rfl) (He.free_ok KX G (c.fact 20 rfl)) (pa_cons (pe_callB c_len (by rfl) (He.free_ok KX G (c.fact 17 rfl)) (by decide +kernel) (pa_cons (pv 2) (pa_nil))) (pa_nil))) (pg_name (i := 3) nd rfl (by first | exact Or.inl rfl | exact Or.inr rfl)) (pss_cons (ps_expr (pe_bm PySem.F.plainAttrs_list PySem.F.slot_list_append PySem.F.type_list_append mt_append (pv 1) (pa_cons (pe_tup (pa_cons (pe_slice sl_list (pv 2) (po_none) (po_some (pv 3))) (pa_cons (pe_int) (pa_cons (pe_int) (pa_nil))))) (pa_nil))))
       (pss_cons (ps_set (i := 4) nd rfl (by first | exact Or.inl rfl | exact Or.inr rfl) (pe_int))
       (pss_one (ps_for pz rfl (pi_list (pe_lst (pa_cons (pe_int) (pa_cons (pe_int) (pa_cons (pe_int) (pa_cons (pe_int) (pa_cons (pe_int) (pa_cons (pe_int) (pa_cons (pe_int) (pa_cons (pe_int) (pa_nil))))))))))) (pg_name (i := 5) nd rfl (by first | exact Or.inl rfl | exact Or.inr rfl)) (pss_cons (ps_set (i := 6) nd rfl (by first | exact Or.inl rfl | exact Or.inr rfl) (pe_op o_rest (pe_op o_floor (pe_ix ix_seq (pv 2) (pv 3) (fun _ _ => rfl)) (pv 5)) (pe_int)))
       (pss_cons (ps_expr (pe_bm PySem.F.plainAttrs_list PySem.F.slot_list_append PySem.F.type_list_append mt_append (pv 1) (pa_cons (pe_tup (pa_cons (pe_slice sl_list (pv 2) (po_none) (po_some (pv 3))) (pa_cons (pv 4) (pa_cons (pv 6) (pa_nil))))) (pa_nil))))
       (pss_one (ps_set (i := 4) nd rfl (by first | exact Or.inl rfl | exact Or.inr rfl) (pe_op o_plus (pe_op o_times (pe_int) (pv 4)) (pv 6)))))))))))
       (pss_one (ps_expr (pe_bm PySem.F.plainAttrs_list PySem.F.slot_list_append PySem.F.type_list_append mt_append (pv 1) (pa_cons (pe_tup (pa_cons (pv 2) (pa_cons (pe_int) (pa_cons (pe_int) (pa_nil))))) (pa_nil)))))))
       (pss_one (ps_ret (pv 1)))))
   (fun vs H Q E h => by
    obtain ⟨_, rfl, h⟩ := h
    haveI : SaysC K := ⟨c⟩
    exact pure_Ldecisions K h))
  ) only [↓Bx.eq]
theorem cb_Lcontext (KX : K.In h) (G : h.Ns mainGlobals mg) (c : SaysX fa fn xf K) : Cb false P w K mg base 1 (He.fAd K ("_law_context", none)) ["_law_look_here", "_law_signs", "_law_node"] [] (sp_Lcontext K) := by
  refine Bx.out ?_
  simp (disch := with_unfolding_all
  exact (
  cb_of (T := t_Lcontext K) (c.def_ 24 rfl) sc_Lcontext (fun vs H Q E h => by
    obtain ⟨_, _, _, rfl, _⟩ := h
    rfl) (fun _ _ _ _ _ _ us hl => match us, hl with | [_, _, _], _ => rfl)
   (fun cdv A outer s H E hr => by
    have nd := sc_Lcontext.nd
    have ho := out_def (cxD_takes (n := false) (P := P) (w := w) (K := K) (mg := mg) (base := base) (N := N_Lcontext) (qual := "_law_context") (st := s_Lcontext) (f := He.fAd K ("_law_context", none)) (cdv := cdv) (A := A) (outer := outer) (s := s) (H := H) (E := E))
    have tk := cxD_takes (n := false) (P := P) (w := w) (K := K) (mg := mg) (base := base) (N := N_Lcontext) (qual := "_law_context") (st := s_Lcontext) (f := He.fAd K ("_law_context", none)) (cdv := cdv) (A := A) (outer := outer) (s := s) (H := H) (E := E)
    have pz := cxD_passes (n := false) (P := P) (w := w) (K := K) (mg := mg) (base := base) (N := N_Lcontext) (qual := "_law_context") (st := s_Lcontext) (f := He.fAd K ("_law_context", none)) (cdv := cdv) (A := A) (outer := outer) (s := s) (H := H) (E := E)
    exact pss_cons (ps_set (i := 3) nd rfl (by first | exact Or.inl rfl | exact Or.inr rfl) (pe_op o_plus (pe_lst (pa_cons (pe_int) (pa_cons (pe_int) (pa_cons (pe_int) (pa_cons (pe_int) (pa_cons (pe_int) (pa_cons (pe_int) (pa_cons (pe_int) (pa_cons (pe_int) (pa_nil)))))))))) (pv 1)))
       (pss_one (ps_ret (pe_callTy c_tuple (by rfl) (He.free_ok KX G (c.fact 18 rfl)) (by decide +kernel) (pa_cons (pe_op o_plus (pe_lc (own := [("_law_place", 4)]) (g := gName 4) (tt := tYes) rfl nd (pi_tup (pe_ix ix_seq (pv 0) (pe_int) (fun _ _ => rfl))) (blkOk_by (N := N_Lcontext) (sc := defScope s_Lcontext) (by decide +kernel)) (fun _ _ _ _ _ => pg_name (i := 4) nd rfl (by first | exact Or.inl rfl | exact Or.inr rfl)) (fun _ _ _ _ _ => pts_nil) (fun _ _ _ _ _ => pe_ix ix_seq (pv 3) (pe_op o_minus (pe_callB c_len (by rfl) (He.free_ok KX G (c.fact 17 rfl)) (by decide +kernel) (pa_cons (pv 3) (pa_nil))) (pv 4)) (fun _ _ => rfl))) (pe_lst (pa_cons (pv 2) (pa_nil)))) (pa_nil))))))
   (fun vs H Q E h => by
    obtain ⟨_, _, _, rfl, h⟩ := h
    haveI : SaysC K := ⟨c⟩
    exact pure_Lcontext K h))
  ) only [↓Bx.eq]
theorem cb_Lbits (KX : K.In h) (G : h.Ns mainGlobals mg) (c : SaysX fa fn xf K) : Cb false P w K mg base 1 (He.fAd K ("_law_bits", none)) ["_law_script", "_law_most"] [] (sp_Lbits K) := by
  refine Bx.out ?_
  simp (disch := with_unfolding_all
  exact (
  cb_of (T := t_Lbits K) (c.def_ 28 rfl) sc_Lbits (fun vs H Q E h => by
    obtain ⟨_, _, rfl, _⟩ := h
    rfl) (fun _ _ _ _ _ _ us hl => match us, hl with | [_, _], _ => rfl)
   (fun cdv A outer s H E hr => by
    have nd := sc_Lbits.nd
    have ho := out_def (cxD_takes (n := false) (P := P) (w := w) (K := K) (mg := mg) (base := base) (N := N_Lbits) (qual := "_law_bits") (st := s_Lbits) (f := He.fAd K ("_law_bits", none)) (cdv := cdv) (A := A) (outer := outer) (s := s) (H := H) (E := E))
    have tk := cxD_takes (n := false) (P := P) (w := w) (K := K) (mg := mg) (base := base) (N := N_Lbits) (qual := "_law_bits") (st := s_Lbits) (f := He.fAd K ("_law_bits", none)) (cdv := cdv) (A := A) (outer := outer) (s := s) (H := H) (E := E)
    have pz := cxD_passes (n := false) (P := P) (w := w) (K := K) (mg := mg) (base := base) (N := N_Lbits) (qual := "_law_bits") (st := s_Lbits) (f := He.fAd K ("_law_bits", none)) (cdv := cdv) (A := A) (outer := outer) (s := s) (H := H) (E := E)
    exact pss_cons (ps_set (i := 2) nd rfl (by first | exact Or.inl rfl | exact Or.inr rfl) (pe_lst (pa_nil)))
       (pss_cons (ps_for pz rfl (pi_enum (by rfl) (He.free_ok KX G (c.fact 23 rfl)) (pa_cons (pe_slice sl_list (pv 0) (po_none) (po_some (pv 1))) (pa_nil))) (pg_tup rfl (pgs_cons (pg_name (i := 3) nd rfl (by first | exact Or.inl rfl | exact Or.inr rfl)) (pgs_cons (pg_name (i := 4) nd rfl (by first | exact Or.inl rfl | exact Or.inr rfl)) (pgs_nil)))) (pss_cons (ps_set (i := 5) nd rfl (by first | exact Or.inl rfl | exact Or.inr rfl) (pe_op o_rest (pe_op o_times (pe_op o_plus (pe_op o_plus (pe_op o_rest (pv 4) (pe_int)) (pe_op o_times (pe_op o_times (pe_int) (pv 3)) (pv 3))) (pe_int)) (pe_int)) (pe_int)))
       (pss_one (ps_set (i := 2) nd rfl (by first | exact Or.inl rfl | exact Or.inr rfl) (pe_op o_plus (pv 2) (pe_op o_times (pe_lst (pa_cons (pe_op o_rest (pv 5) (pe_int)) (pa_nil))) (pe_ix ix_seq (pe_lst (pa_cons (pe_int) (pa_cons (pe_int) (pa_cons (pe_int) (pa_cons (pe_op o_plus (pe_int) (pe_op o_rest (pe_op o_floor (pv 5) (pe_int)) (pe_int))) (pa_cons (pe_op o_plus (pe_int) (pe_op o_rest (pe_op o_floor (pv 5) (pe_int)) (pe_int))) (pa_nil))))))) (pe_op o_rest (pe_op o_floor (pv 5) (pe_int)) (pe_int)) (fun _ _ => rfl))))))))
       (pss_one (ps_ret (pe_slice sl_list (pv 2) (po_none) (po_some (pv 1)))))))
   (fun vs H Q E h => by
    obtain ⟨_, _, rfl, h⟩ := h
    haveI : SaysC K := ⟨c⟩
    exact pure_Lbits K h))
  ) only [↓Bx.eq]
theorem cb_is_bit (KX : K.In h) (G : h.Ns mainGlobals mg) (c : SaysX fa fn xf K) : Cb false P w K mg base 2 (He.fAd K ("is_bit", none)) ["thing"] [] (sp_is_bit K) := by
  refine Bx.out ?_
  simp (disch := with_unfolding_all
  exact (
  cb_of (T := t_is_bit K) (c.def_ 1 rfl) sc_is_bit (fun vs H Q E h => by
    obtain ⟨_, rfl, _⟩ := h
    rfl) (fun _ _ _ _ _ _ us hl => match us, hl with | [_], _ => rfl)
   (fun cdv A outer s H E hr => by
    have nd := sc_is_bit.nd
    have ho := out_def (cxD_takes (n := false) (P := P) (w := w) (K := K) (mg := mg) (base := base) (N := N_is_bit) (qual := "is_bit") (st := s_is_bit) (f := He.fAd K ("is_bit", none)) (cdv := cdv) (A := A) (outer := outer) (s := s) (H := H) (E := E))
    have tk := cxD_takes (n := false) (P := P) (w := w) (K := K) (mg := mg) (base := base) (N := N_is_bit) (qual := "is_bit") (st := s_is_bit) (f := He.fAd K ("is_bit", none)) (cdv := cdv) (A := A) (outer := outer) (s := s) (H := H) (E := E)
    have pz := cxD_passes (n := false) (P := P) (w := w) (K := K) (mg := mg) (base := base) (N := N_is_bit) (qual := "is_bit") (st := s_is_bit) (f := He.fAd K ("is_bit", none)) (cdv := cdv) (A := A) (outer := outer) (s := s) (H := H) (E := E)
    exact pss_one (ps_ret (pe_and (pe_fun (cb_is_whole KX G c) (hr.mono (by decide)) (He.glo_ok KX G (c.fact 24 rfl)) ho (pa_cons (pv 0) (pa_nil))) (pe_one (pe_chain o_le o_le (pe_int) (pv 0) (pe_int))))))
   (fun vs H Q E h => by
    obtain ⟨_, rfl, h⟩ := h
    haveI : SaysC K := ⟨c⟩
    exact pure_is_bit K h))
  ) only [↓Bx.eq]
theorem cb_Llook (KX : K.In h) (G : h.Ns mainGlobals mg) (c : SaysX fa fn xf K) : Cb false P w K mg base 2 (He.fAd K ("_law_look", none)) ["_law_cell"] [] (sp_Llook K) := by
  refine Bx.out ?_
  simp (disch := with_unfolding_all
  exact (
  cb_of (T := t_Llook K) (c.def_ 20 rfl) sc_Llook (fun vs H Q E h => by
    obtain ⟨_, rfl, _⟩ := h
    rfl) (fun _ _ _ _ _ _ us hl => match us, hl with | [_], _ => rfl)
   (fun cdv A outer s H E hr => by
    have nd := sc_Llook.nd
    have ho := out_def (cxD_takes (n := false) (P := P) (w := w) (K := K) (mg := mg) (base := base) (N := N_Llook) (qual := "_law_look") (st := s_Llook) (f := He.fAd K ("_law_look", none)) (cdv := cdv) (A := A) (outer := outer) (s := s) (H := H) (E := E))
    have tk := cxD_takes (n := false) (P := P) (w := w) (K := K) (mg := mg) (base := base) (N := N_Llook) (qual := "_law_look") (st := s_Llook) (f := He.fAd K ("_law_look", none)) (cdv := cdv) (A := A) (outer := outer) (s := s) (H := H) (E := E)
    have pz := cxD_passes (n := false) (P := P) (w := w) (K := K) (mg := mg) (base := base) (N := N_Llook) (qual := "_law_look") (st := s_Llook) (f := He.fAd K ("_law_look", none)) (cdv := cdv) (A := A) (outer := outer) (s := s) (H := H) (E := E)
    exact pss_cons (ps_set (i := 1) nd rfl (by first | exact Or.inl rfl | exact Or.inr rfl) (pe_fun (cb_Lplaces KX G c) (hr.mono (by decide)) (He.glo_ok KX G (c.fact 25 rfl)) ho (pa_cons (pe_ix ix_seq (pe_lst (pa_cons (pe_op o_rest (pe_op o_floor (pv 0) (pe_int)) (pe_int)) (pa_cons (pe_op o_rest (pe_op o_floor (pv 0) (pe_int)) (pe_int)) (pa_cons (pe_int) (pa_cons (pe_op o_plus (pe_int) (pe_op o_rest (pe_op o_floor (pv 0) (pe_int)) (pe_int))) (pa_nil)))))) (pe_op o_rest (pe_op o_floor (pv 0) (pe_int)) (pe_int)) (fun _ _ => rfl)) (pa_nil))))
       (pss_one (ps_ret (pe_tup (pa_cons (pe_ix ix_seq (pe_lst (pa_cons (pe_str) (pa_cons (pe_str) (pa_cons (pe_str) (pa_nil))))) (pe_op o_rest (pv 0) (pe_int)) (fun _ _ => rfl)) (pa_cons (pe_callTy c_tuple (by rfl) (He.free_ok KX G (c.fact 18 rfl)) (by decide +kernel) (pa_cons (pv 1) (pa_nil))) (pa_nil)))))))
   (fun vs H Q E h => by
    obtain ⟨_, rfl, h⟩ := h
    haveI : SaysC K := ⟨c⟩
    exact pure_Llook K h))
  ) only [↓Bx.eq]
theorem cb_checked_bit (KX : K.In h) (G : h.Ns mainGlobals mg) (c : SaysX fa fn xf K) : Cb false P w K mg base 3 (He.fAd K ("checked_bit", none)) ["thing"] [] (sp_checked_bit K) := by
  refine Bx.out ?_
  simp (disch := with_unfolding_all
  exact (
  cb_of (T := t_checked_bit K) (c.def_ 2 rfl) sc_checked_bit (fun vs H Q E h => by
    obtain ⟨_, rfl, _⟩ := h
    rfl) (fun _ _ _ _ _ _ us hl => match us, hl with | [_], _ => rfl)
   (fun cdv A outer s H E hr => by
    have nd := sc_checked_bit.nd
    have ho := out_def (cxD_takes (n := false) (P := P) (w := w) (K := K) (mg := mg) (base := base) (N := N_checked_bit) (qual := "checked_bit") (st := s_checked_bit) (f := He.fAd K ("checked_bit", none)) (cdv := cdv) (A := A) (outer := outer) (s := s) (H := H) (E := E))
    have tk := cxD_takes (n := false) (P := P) (w := w) (K := K) (mg := mg) (base := base) (N := N_checked_bit) (qual := "checked_bit") (st := s_checked_bit) (f := He.fAd K ("checked_bit", none)) (cdv := cdv) (A := A) (outer := outer) (s := s) (H := H) (E := E)
    have pz := cxD_passes (n := false) (P := P) (w := w) (K := K) (mg := mg) (base := base) (N := N_checked_bit) (qual := "checked_bit") (st := s_checked_bit) (f := He.fAd K ("checked_bit", none)) (cdv := cdv) (A := A) (outer := outer) (s := s) (H := H) (E := E)
    exact pss_cons (ps_if (pt_not (pt_tru (pe_fun (cb_is_bit KX G c) (hr.mono (by decide)) (He.glo_ok KX G (c.fact 26 rfl)) ho (pa_cons (pv 0) (pa_nil))))) (pss_one (ps_rz (exn_ok KX G (c.fact 27 rfl) (c.fact 28 rfl)) rfl tk)) (pss_nil))
       (pss_one (ps_ret (pv 0))))
   (fun vs H Q E h => by
    obtain ⟨_, rfl, h⟩ := h
    haveI : SaysC K := ⟨c⟩
    exact pure_checked_bit K h))
  ) only [↓Bx.eq]
theorem cb_slot_of (KX : K.In h) (G : h.Ns mainGlobals mg) (c : SaysX fa fn xf K) : Cb false P w K mg base 3 (He.fAd K ("slot_of", none)) ["kind"] [] (sp_slot_of K) := by
  refine Bx.out ?_
  simp (disch := with_unfolding_all
  exact (
  cb_of (T := t_slot_of K) (c.def_ 12 rfl) sc_slot_of (fun vs H Q E h => by
    obtain ⟨_, rfl, _⟩ := h
    rfl) (fun _ _ _ _ _ _ us hl => match us, hl with | [_], _ => rfl)
   (fun cdv A outer s H E hr => by
    have nd := sc_slot_of.nd
    have ho := out_def (cxD_takes (n := false) (P := P) (w := w) (K := K) (mg := mg) (base := base) (N := N_slot_of) (qual := "slot_of") (st := s_slot_of) (f := He.fAd K ("slot_of", none)) (cdv := cdv) (A := A) (outer := outer) (s := s) (H := H) (E := E))
    have tk := cxD_takes (n := false) (P := P) (w := w) (K := K) (mg := mg) (base := base) (N := N_slot_of) (qual := "slot_of") (st := s_slot_of) (f := He.fAd K ("slot_of", none)) (cdv := cdv) (A := A) (outer := outer) (s := s) (H := H) (E := E)
    have pz := cxD_passes (n := false) (P := P) (w := w) (K := K) (mg := mg) (base := base) (N := N_slot_of) (qual := "slot_of") (st := s_slot_of) (f := He.fAd K ("slot_of", none)) (cdv := cdv) (A := A) (outer := outer) (s := s) (H := H) (E := E)
    exact pss_cons (ps_if (pt_cmpR (o_same hr.units) (pv 0) (pe_str) (nomark _)) (pss_one (ps_ret (pe_new0 (He.mkr_ok (c.fact 32 rfl)) (cb_Even_init KX G c) (hr.mono (by decide)) (He.glo_ok KX G (c.fact 29 rfl)) ho))) (pss_nil))
       (pss_cons (ps_if (pt_cmpR (o_same hr.units) (pv 0) (pe_str) (nomark _)) (pss_one (ps_ret (pe_new0 (He.mkr_ok (c.fact 33 rfl)) (cb_Quick_init KX G c) (hr.mono (by decide)) (He.glo_ok KX G (c.fact 30 rfl)) ho))) (pss_nil))
       (pss_one (ps_ret (pe_new0 (He.mkr_ok (c.fact 34 rfl)) (cb_Run_init KX G c) (hr.mono (by decide)) (He.glo_ok KX G (c.fact 31 rfl)) ho)))))
   (fun vs H Q E h => by
    obtain ⟨_, rfl, h⟩ := h
    haveI : SaysC K := ⟨c⟩
    exact pure_slot_of K h))
  ) only [↓Bx.eq]
theorem cb_Even_seen (KX : K.In h) (G : h.Ns mainGlobals mg) (c : SaysX fa fn xf K) : Cb false P w K mg base 4 (He.fAd K ("Even", some "seen")) ["self", "bit"] [] (sp_Even_seen K) := by
  refine Bx.out ?_
  simp (disch := with_unfolding_all
  exact (
  cb_of (T := t_Even_seen K) (c.def_ 5 rfl) sc_Even_seen (fun vs H Q E h => by
    obtain ⟨_, _, rfl, _⟩ := h
    rfl) (fun _ _ _ _ _ _ us hl => match us, hl with | [_, _], _ => rfl)
   (fun cdv A outer s H E hr => by
    have nd := sc_Even_seen.nd
    have ho := out_def (cxD_takes (n := false) (P := P) (w := w) (K := K) (mg := mg) (base := base) (N := N_Even_seen) (qual := "Even.seen") (st := s_Even_seen) (f := He.fAd K ("Even", some "seen")) (cdv := cdv) (A := A) (outer := outer) (s := s) (H := H) (E := E))
    have tk := cxD_takes (n := false) (P := P) (w := w) (K := K) (mg := mg) (base := base) (N := N_Even_seen) (qual := "Even.seen") (st := s_Even_seen) (f := He.fAd K ("Even", some "seen")) (cdv := cdv) (A := A) (outer := outer) (s := s) (H := H) (E := E)
    have pz := cxD_passes (n := false) (P := P) (w := w) (K := K) (mg := mg) (base := base) (N := N_Even_seen) (qual := "Even.seen") (st := s_Even_seen) (f := He.fAd K ("Even", some "seen")) (cdv := cdv) (A := A) (outer := outer) (s := s) (H := H) (E := E)
    exact pss_cons (ps_if (pt_cmpR (o_same hr.units) (pe_fun (cb_checked_bit KX G c) (hr.mono (by decide)) (He.glo_ok KX G (c.fact 35 rfl)) ho (pa_cons (pv 1) (pa_nil))) (pe_int) (nomark _)) (pss_one (ps_fldaug (pv 0) (pe_int) in_add)) (pss_one (ps_fldaug (pv 0) (pe_int) in_add)))
       (pss_one (ps_if (pt_cmpR o_gt (pe_op o_plus (pe_fld (pv 0) rfl) (pe_fld (pv 0) rfl)) (pe_gint (He.int_ok KX G (c.fact 36 rfl))) (nomark _)) (pss_cons (ps_fld (pv 0) (pe_op o_floor (pe_op o_plus (pe_fld (pv 0) rfl) (pe_int)) (pe_int)) rfl)
       (pss_one (ps_fld (pv 0) (pe_op o_floor (pe_op o_plus (pe_fld (pv 0) rfl) (pe_int)) (pe_int)) rfl))) (pss_nil))))
   (fun vs H Q E h => by
    obtain ⟨_, _, rfl, h⟩ := h
    haveI : SaysC K := ⟨c⟩
    exact pure_Even_seen K h))
  ) only [↓Bx.eq]
theorem cb_Quick_seen (KX : K.In h) (G : h.Ns mainGlobals mg) (c : SaysX fa fn xf K) : Cb false P w K mg base 4 (He.fAd K ("Quick", some "seen")) ["self", "bit"] [] (sp_Quick_seen K) := by
  refine Bx.out ?_
  simp (disch := with_unfolding_all
  exact (
  cb_of (T := t_Quick_seen K) (c.def_ 8 rfl) sc_Quick_seen (fun vs H Q E h => by
    obtain ⟨_, _, rfl, _⟩ := h
    rfl) (fun _ _ _ _ _ _ us hl => match us, hl with | [_, _], _ => rfl)
   (fun cdv A outer s H E hr => by
    have nd := sc_Quick_seen.nd
    have ho := out_def (cxD_takes (n := false) (P := P) (w := w) (K := K) (mg := mg) (base := base) (N := N_Quick_seen) (qual := "Quick.seen") (st := s_Quick_seen) (f := He.fAd K ("Quick", some "seen")) (cdv := cdv) (A := A) (outer := outer) (s := s) (H := H) (E := E))
    have tk := cxD_takes (n := false) (P := P) (w := w) (K := K) (mg := mg) (base := base) (N := N_Quick_seen) (qual := "Quick.seen") (st := s_Quick_seen) (f := He.fAd K ("Quick", some "seen")) (cdv := cdv) (A := A) (outer := outer) (s := s) (H := H) (E := E)
    have pz := cxD_passes (n := false) (P := P) (w := w) (K := K) (mg := mg) (base := base) (N := N_Quick_seen) (qual := "Quick.seen") (st := s_Quick_seen) (f := He.fAd K ("Quick", some "seen")) (cdv := cdv) (A := A) (outer := outer) (s := s) (H := H) (E := E)
    exact pss_cons (ps_if (pt_cmpR (o_same hr.units) (pe_fun (cb_checked_bit KX G c) (hr.mono (by decide)) (He.glo_ok KX G (c.fact 35 rfl)) ho (pa_cons (pv 1) (pa_nil))) (pe_int) (nomark _)) (pss_one (ps_fldaug (pv 0) (pe_op o_floor (pe_op o_minus (pe_gint (He.int_ok KX G (c.fact 16 rfl))) (pe_fld (pv 0) rfl)) (pe_int)) in_add)) (pss_one (ps_fldaug (pv 0) (pe_op o_floor (pe_fld (pv 0) rfl) (pe_int)) in_sub)))
       (pss_one (ps_fld (pv 0) (pe_callB (c_max rfl) (by rfl) (He.free_ok KX G (c.fact 22 rfl)) (by decide +kernel) (pa_cons (pe_gint (He.int_ok KX G (c.fact 37 rfl))) (pa_cons (pe_callB (c_min rfl) (by rfl) (He.free_ok KX G (c.fact 21 rfl)) (by decide +kernel) (pa_cons (pe_op o_minus (pe_gint (He.int_ok KX G (c.fact 16 rfl))) (pe_gint (He.int_ok KX G (c.fact 37 rfl)))) (pa_cons (pe_fld (pv 0) rfl) (pa_nil)))) (pa_nil)))) rfl)))
   (fun vs H Q E h => by
    obtain ⟨_, _, rfl, h⟩ := h
    haveI : SaysC K := ⟨c⟩
    exact pure_Quick_seen K h))
  ) only [↓Bx.eq]
theorem cb_Run_seen (KX : K.In h) (G : h.Ns mainGlobals mg) (c : SaysX fa fn xf K) : Cb false P w K mg base 4 (He.fAd K ("Run", some "seen")) ["self", "bit"] [] (sp_Run_seen K) := by
  refine Bx.out ?_
  simp (disch := with_unfolding_all
  exact (
  cb_of (T := t_Run_seen K) (c.def_ 11 rfl) sc_Run_seen (fun vs H Q E h => by
    obtain ⟨_, _, rfl, _⟩ := h
    rfl) (fun _ _ _ _ _ _ us hl => match us, hl with | [_, _], _ => rfl)
   (fun cdv A outer s H E hr => by
    have nd := sc_Run_seen.nd
    have ho := out_def (cxD_takes (n := false) (P := P) (w := w) (K := K) (mg := mg) (base := base) (N := N_Run_seen) (qual := "Run.seen") (st := s_Run_seen) (f := He.fAd K ("Run", some "seen")) (cdv := cdv) (A := A) (outer := outer) (s := s) (H := H) (E := E))
    have tk := cxD_takes (n := false) (P := P) (w := w) (K := K) (mg := mg) (base := base) (N := N_Run_seen) (qual := "Run.seen") (st := s_Run_seen) (f := He.fAd K ("Run", some "seen")) (cdv := cdv) (A := A) (outer := outer) (s := s) (H := H) (E := E)
    have pz := cxD_passes (n := false) (P := P) (w := w) (K := K) (mg := mg) (base := base) (N := N_Run_seen) (qual := "Run.seen") (st := s_Run_seen) (f := He.fAd K ("Run", some "seen")) (cdv := cdv) (A := A) (outer := outer) (s := s) (H := H) (E := E)
    exact pss_one (ps_if (pt_cmpR (o_same hr.units) (pe_fun (cb_checked_bit KX G c) (hr.mono (by decide)) (He.glo_ok KX G (c.fact 35 rfl)) ho (pa_cons (pv 1) (pa_nil))) (pe_fld (pv 0) rfl) (nomark _)) (pss_one (ps_fld (pv 0) (pe_callB (c_min rfl) (by rfl) (He.free_ok KX G (c.fact 21 rfl)) (by decide +kernel) (pa_cons (pe_op o_plus (pe_fld (pv 0) rfl) (pe_int)) (pa_cons (pe_gint (He.int_ok KX G (c.fact 36 rfl))) (pa_nil)))) rfl)) (pss_cons (ps_fld (pv 0) (pv 1) rfl)
       (pss_one (ps_fld (pv 0) (pe_int) rfl)))))
   (fun vs H Q E h => by
    obtain ⟨_, _, rfl, h⟩ := h
    haveI : SaysC K := ⟨c⟩
    exact pure_Run_seen K h))
  ) only [↓Bx.eq]
theorem cb_Book_chance (KX : K.In h) (G : h.Ns mainGlobals mg) (c : SaysX fa fn xf K) : Cb false P w K mg base 4 (He.fAd K ("Book", some "chance")) ["self", "signs", "node"] [] (sp_Book_chance K) := by
  refine Bx.out ?_
  simp (disch := with_unfolding_all
  exact (
  cb_of (T := t_Book_chance K) (c.def_ 15 rfl) sc_Book_chance (fun vs H Q E h => by
    obtain ⟨_, _, _, rfl, _⟩ := h
    rfl) (fun _ _ _ _ _ _ us hl => match us, hl with | [_, _, _], _ => rfl)
   (fun cdv A outer s H E hr => by
    have nd := sc_Book_chance.nd
    have ho := out_def (cxD_takes (n := false) (P := P) (w := w) (K := K) (mg := mg) (base := base) (N := N_Book_chance) (qual := "Book.chance") (st := s_Book_chance) (f := He.fAd K ("Book", some "chance")) (cdv := cdv) (A := A) (outer := outer) (s := s) (H := H) (E := E))
    have tk := cxD_takes (n := false) (P := P) (w := w) (K := K) (mg := mg) (base := base) (N := N_Book_chance) (qual := "Book.chance") (st := s_Book_chance) (f := He.fAd K ("Book", some "chance")) (cdv := cdv) (A := A) (outer := outer) (s := s) (H := H) (E := E)
    have pz := cxD_passes (n := false) (P := P) (w := w) (K := K) (mg := mg) (base := base) (N := N_Book_chance) (qual := "Book.chance") (st := s_Book_chance) (f := He.fAd K ("Book", some "chance")) (cdv := cdv) (A := A) (outer := outer) (s := s) (H := H) (E := E)
    exact pss_cons (ps_set (i := 3) nd rfl (by first | exact Or.inl rfl | exact Or.inr rfl) (pe_fun (cb_context_of KX G c) (hr.mono (by decide)) (He.glo_ok KX G (c.fact 38 rfl)) ho (pa_cons (pe_fld (pv 0) rfl) (pa_cons (pv 1) (pa_cons (pv 2) (pa_nil))))))
       (pss_cons (ps_if (pt_cmp (pc_din (hu_of hr) (pv 3) (pe_fld (pv 0) rfl))) (pss_one (ps_ret (pe_mth0 (k := 3) (pe_dget (hu_of hr) (pe_fld (pv 0) rfl) (pv 3) (fun _ _ => rfl)) (mo_or (mo_one (He.cls_ok (c.fact 1 rfl)) (He.meth_ok (c.fact 40 rfl)) (cb_Even_chance KX G c) (by decide)) (mo_or (mo_one (He.cls_ok (c.fact 4 rfl)) (He.meth_ok (c.fact 41 rfl)) (cb_Quick_chance KX G c) (by decide)) (mo_one (He.cls_ok (c.fact 6 rfl)) (He.meth_ok (c.fact 42 rfl)) (cb_Run_chance KX G c) (by decide)))) hr ho))) (pss_nil))
       (pss_one (ps_ret (pe_mth0 (k := 3) (pe_fun (cb_slot_of KX G c) (hr.mono (by decide)) (He.glo_ok KX G (c.fact 39 rfl)) ho (pa_cons (pe_ix ix_seq (pe_fld (pv 0) rfl) (pe_int) (fun _ _ => rfl)) (pa_nil))) (mo_or (mo_one (He.cls_ok (c.fact 1 rfl)) (He.meth_ok (c.fact 40 rfl)) (cb_Even_chance KX G c) (by decide)) (mo_or (mo_one (He.cls_ok (c.fact 4 rfl)) (He.meth_ok (c.fact 41 rfl)) (cb_Quick_chance KX G c) (by decide)) (mo_one (He.cls_ok (c.fact 6 rfl)) (He.meth_ok (c.fact 42 rfl)) (cb_Run_chance KX G c) (by decide)))) hr ho)))))
   (fun vs H Q E h => by
    obtain ⟨_, _, _, rfl, h⟩ := h
    haveI : SaysC K := ⟨c⟩
    exact pure_Book_chance K h))
  ) only [↓Bx.eq]
theorem cb_Book_seen (KX : K.In h) (G : h.Ns mainGlobals mg) (c : SaysX fa fn xf K) : Cb false P w K mg base 5 (He.fAd K ("Book", some "seen")) ["self", "signs", "node", "bit"] [] (sp_Book_seen K) := by
  refine Bx.out ?_
  simp (disch := with_unfolding_all
  exact (
  cb_of (T := t_Book_seen K) (c.def_ 16 rfl) sc_Book_seen (fun vs H Q E h => by
    obtain ⟨_, _, _, _, rfl, _⟩ := h
    rfl) (fun _ _ _ _ _ _ us hl => match us, hl with | [_, _, _, _], _ => rfl)
   (fun cdv A outer s H E hr => by
    have nd := sc_Book_seen.nd
    have ho := out_def (cxD_takes (n := false) (P := P) (w := w) (K := K) (mg := mg) (base := base) (N := N_Book_seen) (qual := "Book.seen") (st := s_Book_seen) (f := He.fAd K ("Book", some "seen")) (cdv := cdv) (A := A) (outer := outer) (s := s) (H := H) (E := E))
    have tk := cxD_takes (n := false) (P := P) (w := w) (K := K) (mg := mg) (base := base) (N := N_Book_seen) (qual := "Book.seen") (st := s_Book_seen) (f := He.fAd K ("Book", some "seen")) (cdv := cdv) (A := A) (outer := outer) (s := s) (H := H) (E := E)
    have pz := cxD_passes (n := false) (P := P) (w := w) (K := K) (mg := mg) (base := base) (N := N_Book_seen) (qual := "Book.seen") (st := s_Book_seen) (f := He.fAd K ("Book", some "seen")) (cdv := cdv) (A := A) (outer := outer) (s := s) (H := H) (E := E)
    exact pss_cons (ps_expr (pe_fun (cb_checked_bit KX G c) (hr.mono (by decide)) (He.glo_ok KX G (c.fact 35 rfl)) ho (pa_cons (pv 3) (pa_nil))))
       (pss_cons (ps_set (i := 4) nd rfl (by first | exact Or.inl rfl | exact Or.inr rfl) (pe_fun (cb_context_of KX G c) (hr.mono (by decide)) (He.glo_ok KX G (c.fact 38 rfl)) ho (pa_cons (pe_fld (pv 0) rfl) (pa_cons (pv 1) (pa_cons (pv 2) (pa_nil))))))
       (pss_cons (ps_if (pt_cmp (pc_dnotin (hu_of hr) (pv 4) (pe_fld (pv 0) rfl))) (pss_one (ps_dput (hu_of hr) (pe_fld (pv 0) rfl) (pv 4) (pe_fun (cb_slot_of KX G c) (hr.mono (by decide)) (He.glo_ok KX G (c.fact 39 rfl)) ho (pa_cons (pe_ix ix_seq (pe_fld (pv 0) rfl) (pe_int) (fun _ _ => rfl)) (pa_nil))) rfl)) (pss_nil))
       (pss_one (ps_expr (pe_mth (k := 4) (pe_dget (hu_of hr) (pe_fld (pv 0) rfl) (pv 4) (fun _ _ => rfl)) (mo_or (mo_one (He.cls_ok (c.fact 1 rfl)) (He.meth_ok (c.fact 43 rfl)) (cb_Even_seen KX G c) (by decide)) (mo_or (mo_one (He.cls_ok (c.fact 4 rfl)) (He.meth_ok (c.fact 44 rfl)) (cb_Quick_seen KX G c) (by decide)) (mo_one (He.cls_ok (c.fact 6 rfl)) (He.meth_ok (c.fact 45 rfl)) (cb_Run_seen KX G c) (by decide)))) hr ho (pa_cons (pv 3) (pa_nil))))))))
   (fun vs H Q E h => by
    obtain ⟨_, _, _, _, rfl, h⟩ := h
    haveI : SaysC K := ⟨c⟩
    exact pure_Book_seen K h))
  ) only [↓Bx.eq]
theorem cb_Lright (KX : K.In h) (G : h.Ns mainGlobals mg) (c : SaysX fa fn xf K) : Cb false P w K mg base 5 (He.fAd K ("_law_right", none)) ["_law_book", "_law_look_here", "_law_seen_here", "_law_row", "_law_node"] [] (sp_Lright K) := by
  refine Bx.out ?_
  simp (disch := with_unfolding_all
  exact (
  cb_of (T := t_Lright K) (c.def_ 25 rfl) sc_Lright (fun vs H Q E h => by
    obtain ⟨_, _, _, _, _, rfl, _⟩ := h
    rfl) (fun _ _ _ _ _ _ us hl => match us, hl with | [_, _, _, _, _], _ => rfl)
   (fun cdv A outer s H E hr => by
    have nd := sc_Lright.nd
    have ho := out_def (cxD_takes (n := false) (P := P) (w := w) (K := K) (mg := mg) (base := base) (N := N_Lright) (qual := "_law_right") (st := s_Lright) (f := He.fAd K ("_law_right", none)) (cdv := cdv) (A := A) (outer := outer) (s := s) (H := H) (E := E))
    have tk := cxD_takes (n := false) (P := P) (w := w) (K := K) (mg := mg) (base := base) (N := N_Lright) (qual := "_law_right") (st := s_Lright) (f := He.fAd K ("_law_right", none)) (cdv := cdv) (A := A) (outer := outer) (s := s) (H := H) (E := E)
    have pz := cxD_passes (n := false) (P := P) (w := w) (K := K) (mg := mg) (base := base) (N := N_Lright) (qual := "_law_right") (st := s_Lright) (f := He.fAd K ("_law_right", none)) (cdv := cdv) (A := A) (outer := outer) (s := s) (H := H) (E := E)
    exact pss_cons (ps_set (i := 5) nd rfl (by first | exact Or.inl rfl | exact Or.inr rfl) (pe_callTy c_list (by rfl) (He.free_ok KX G (c.fact 46 rfl)) (by decide +kernel) (pa_cons (pv 3) (pa_nil))))
       (pss_cons (ps_set (i := 6) nd rfl (by first | exact Or.inl rfl | exact Or.inr rfl) (pe_mth (k := 4) (pv 0) (mo_one (He.cls_ok (c.fact 9 rfl)) (He.meth_ok (c.fact 50 rfl)) (cb_Book_chance KX G c) (by decide)) hr ho (pa_cons (pv 3) (pa_cons (pv 4) (pa_nil)))))
       (pss_cons (ps_set (i := 7) nd rfl (by first | exact Or.inl rfl | exact Or.inr rfl) (pe_fun (cb_Ldue KX G c) (hr.mono (by decide)) (He.glo_ok KX G (c.fact 47 rfl)) ho (pa_cons (pv 1) (pa_cons (pe_dget2 (hu_of hr) (pv 2) (pe_fun (cb_Lcontext KX G c) (hr.mono (by decide)) (He.glo_ok KX G (c.fact 48 rfl)) ho (pa_cons (pv 1) (pa_cons (pv 5) (pa_cons (pv 4) (pa_nil))))) (pe_lst (pa_cons (pe_int) (pa_cons (pe_int) (pa_cons (pe_int) (pa_cons (pe_int) (pa_cons (pe_int) (pa_nil))))))) ⟨rfl, rfl, rfl, rfl⟩) (pa_nil)))))
       (pss_cons (ps_expr (pe_mth (k := 4) (pv 0) (mo_one (He.cls_ok (c.fact 9 rfl)) (He.meth_ok (c.fact 50 rfl)) (cb_Book_chance KX G c) (by decide)) hr ho (pa_cons (pv 3) (pa_cons (pe_op o_minus (pe_int) (pv 4)) (pa_nil)))))
       (pss_one (ps_ret (pe_and (pe_fun (cb_Lwhole KX G c) (hr.mono (by decide)) (He.glo_ok KX G (c.fact 49 rfl)) ho (pa_cons (pv 6) (pa_nil))) (pe_and (pe_cmpR (o_same hr.units) (pv 6) (pv 7) (nomark _)) (pe_and (pe_cmpR (o_same hr.units) (pe_mth (k := 4) (pv 0) (mo_one (He.cls_ok (c.fact 9 rfl)) (He.meth_ok (c.fact 50 rfl)) (cb_Book_chance KX G c) (by decide)) hr ho (pa_cons (pv 3) (pa_cons (pv 4) (pa_nil)))) (pv 7) (nomark _)) (pe_one (pe_cmpR (o_same hr.units) (pv 3) (pv 5) (nomark _))))))))))))
   (fun vs H Q E h => by
    obtain ⟨_, _, _, _, _, rfl, h⟩ := h
    haveI : SaysC K := ⟨c⟩
    exact pure_Lright K h))
  ) only [↓Bx.eq]
theorem cb_Lrefused (KX : K.In h) (G : h.Ns mainGlobals mg) (c : SaysX fa fn xf K) : Cb false P w K mg base 6 (He.fAd K ("_law_refused", none)) ["_law_book", "_law_signs", "_law_node", "_law_thing"] [] (sp_Lrefused K) := by
  refine Bx.out ?_
  simp (disch := with_unfolding_all
  exact (
  cb_of (T := t_Lrefused K) (c.def_ 26 rfl) sc_Lrefused (fun vs H Q E h => by
    obtain ⟨_, _, _, _, rfl, _⟩ := h
    rfl) (fun _ _ _ _ _ _ us hl => match us, hl with | [_, _, _, _], _ => rfl)
   (fun cdv A outer s H E hr => by
    have nd := sc_Lrefused.nd
    have ho := out_def (cxD_takes (n := false) (P := P) (w := w) (K := K) (mg := mg) (base := base) (N := N_Lrefused) (qual := "_law_refused") (st := s_Lrefused) (f := He.fAd K ("_law_refused", none)) (cdv := cdv) (A := A) (outer := outer) (s := s) (H := H) (E := E))
    have tk := cxD_takes (n := false) (P := P) (w := w) (K := K) (mg := mg) (base := base) (N := N_Lrefused) (qual := "_law_refused") (st := s_Lrefused) (f := He.fAd K ("_law_refused", none)) (cdv := cdv) (A := A) (outer := outer) (s := s) (H := H) (E := E)
    have pz := cxD_passes (n := false) (P := P) (w := w) (K := K) (mg := mg) (base := base) (N := N_Lrefused) (qual := "_law_refused") (st := s_Lrefused) (f := He.fAd K ("_law_refused", none)) (cdv := cdv) (A := A) (outer := outer) (s := s) (H := H) (E := E)
    exact pss_cons (ps_set (i := 4) nd rfl (by first | exact Or.inl rfl | exact Or.inr rfl) (pe_lst (pa_nil)))
       (pss_cons (ps_tryX rfl rfl nd (i := 5) rfl rfl ⟨rfl, by decide, .inl (He.glo_ok KX G (c.fact 52 rfl))⟩ tk (fun W1 pn1 xe1 tk1 pz => pss_one (ps_expr (pe_mth (k := 5) (pv 0) (mo_one (He.cls_ok (c.fact 9 rfl)) (He.meth_ok (c.fact 54 rfl)) (cb_Book_seen KX G c) (by decide)) hr (out_try tk1) (pa_cons (pv 1) (pa_cons (pv 2) (pa_cons (pv 3) (pa_nil))))))) (fun ea1 oe1 eD1 pn1 hz1 hf1 eC1 => pss_one (ps_set (i := 4) nd rfl (by first | exact Or.inl rfl | exact Or.inr rfl) (pe_lst (pa_cons (pe_callB (c_isx eC1 hz1 hf1) (by rfl) (He.free_ok KX G (c.fact 13 rfl)) (by decide +kernel) (pa_cons (pv 5) (pa_cons (pe_gref (He.glo_ok KX G (c.fact 27 rfl))) (pa_nil)))) (pa_cons (pe_callB (c_isx eC1 hz1 hf1) (by rfl) (He.free_ok KX G (c.fact 13 rfl)) (by decide +kernel) (pa_cons (pv 5) (pa_cons (pe_gty (He.free_ok KX G (c.fact 51 rfl)) (by decide +kernel)) (pa_nil)))) (pa_cons (pe_callB (c_isx eC1 hz1 hf1) (by rfl) (He.free_ok KX G (c.fact 13 rfl)) (by decide +kernel) (pa_cons (pv 5) (pa_cons (pe_gref (He.glo_ok KX G (c.fact 53 rfl))) (pa_nil)))) (pa_nil))))))))
       (pss_one (ps_ret (pe_cmpR (o_same hr.units) (pv 4) (pe_lst (pa_cons (pe_bl) (pa_cons (pe_bl) (pa_cons (pe_bl) (pa_nil))))) (nomark _))))))
   (fun vs H Q E h => by
    obtain ⟨_, _, _, _, rfl, h⟩ := h
    haveI : SaysC K := ⟨c⟩
    exact pure_Lrefused K h))
  ) only [↓Bx.eq]
theorem cb_Llong (KX : K.In h) (G : h.Ns mainGlobals mg) (c : SaysX fa fn xf K) : Cb false P w K mg base 6 (He.fAd K ("_law_long", none)) ["_law_look_here", "_law_bits_here"] [] (sp_Llong K) := by
  refine Bx.out ?_
  simp (disch := with_unfolding_all
  exact (
  cb_of (T := t_Llong K) (c.def_ 29 rfl) sc_Llong (fun vs H Q E h => by
    obtain ⟨_, _, rfl, _⟩ := h
    rfl) (fun _ _ _ _ _ _ us hl => match us, hl with | [_, _], _ => rfl)
   (fun cdv A outer s H E hr => by
    have nd := sc_Llong.nd
    have ho := out_def (cxD_takes (n := false) (P := P) (w := w) (K := K) (mg := mg) (base := base) (N := N_Llong) (qual := "_law_long") (st := s_Llong) (f := He.fAd K ("_law_long", none)) (cdv := cdv) (A := A) (outer := outer) (s := s) (H := H) (E := E))
    have tk := cxD_takes (n := false) (P := P) (w := w) (K := K) (mg := mg) (base := base) (N := N_Llong) (qual := "_law_long") (st := s_Llong) (f := He.fAd K ("_law_long", none)) (cdv := cdv) (A := A) (outer := outer) (s := s) (H := H) (E := E)
    have pz := cxD_passes (n := false) (P := P) (w := w) (K := K) (mg := mg) (base := base) (N := N_Llong) (qual := "_law_long") (st := s_Llong) (f := He.fAd K ("_law_long", none)) (cdv := cdv) (A := A) (outer := outer) (s := s) (H := H) (E := E)
    exact pss_cons (ps_set (i := 2) nd rfl (by first | exact Or.inl rfl | exact Or.inr rfl) (pe_new (He.mkr_ok (c.fact 57 rfl)) (cb_Book_init KX G c) (hr.mono (by decide)) (He.glo_ok KX G (c.fact 55 rfl)) ho (pa_cons (pv 0) (pa_nil))))
       (pss_cons (ps_set (i := 3) nd rfl (by first | exact Or.inl rfl | exact Or.inr rfl) (pe_lst (pa_cons (pe_int) (pa_cons (pe_int) (pa_cons (pe_int) (pa_cons (pe_int) (pa_cons (pe_int) (pa_nil))))))))
       (pss_cons (ps_for pz rfl (pi_list (pv 1)) (pg_name (i := 4) nd rfl (by first | exact Or.inl rfl | exact Or.inr rfl)) (pss_cons (ps_if (pt_cmpR (o_diff hr.units) (pe_mth (k := 5) (pv 2) (mo_one (He.cls_ok (c.fact 9 rfl)) (He.meth_ok (c.fact 50 rfl)) (cb_Book_chance KX G c) (by decide)) hr ho (pa_cons (pe_lst (pa_nil)) (pa_cons (pe_int) (pa_nil)))) (pe_fun (cb_Ldue KX G c) (hr.mono (by decide)) (He.glo_ok KX G (c.fact 47 rfl)) ho (pa_cons (pv 0) (pa_cons (pv 3) (pa_nil)))) (nomark _)) (pss_one (ps_ret (pe_bl))) (pss_nil))
       (pss_cons (ps_expr (pe_mth (k := 5) (pv 2) (mo_one (He.cls_ok (c.fact 9 rfl)) (He.meth_ok (c.fact 54 rfl)) (cb_Book_seen KX G c) (by decide)) hr ho (pa_cons (pe_lst (pa_nil)) (pa_cons (pe_int) (pa_cons (pv 4) (pa_nil))))))
       (pss_one (ps_set (i := 3) nd rfl (by first | exact Or.inl rfl | exact Or.inr rfl) (pe_fun (cb_Lseen KX G c) (hr.mono (by decide)) (He.glo_ok KX G (c.fact 56 rfl)) ho (pa_cons (pv 3) (pa_cons (pv 4) (pa_nil)))))))))
       (pss_one (ps_ret (pe_cmpR (o_same hr.units) (pe_mth (k := 5) (pv 2) (mo_one (He.cls_ok (c.fact 9 rfl)) (He.meth_ok (c.fact 50 rfl)) (cb_Book_chance KX G c) (by decide)) hr ho (pa_cons (pe_lst (pa_nil)) (pa_cons (pe_int) (pa_nil)))) (pe_fun (cb_Ldue KX G c) (hr.mono (by decide)) (He.glo_ok KX G (c.fact 47 rfl)) ho (pa_cons (pv 0) (pa_cons (pv 3) (pa_nil)))) (nomark _)))))))
   (fun vs H Q E h => by
    obtain ⟨_, _, rfl, h⟩ := h
    haveI : SaysC K := ⟨c⟩
    exact pure_Llong K h))
  ) only [↓Bx.eq]
theorem cb_Lwalked (KX : K.In h) (G : h.Ns mainGlobals mg) (c : SaysX fa fn xf K) : Cb false P w K mg base 7 (He.fAd K ("_law_walked", none)) ["_law_looks", "_law_decisions_here", "_law_at", "_law_odd"] [] (sp_Lwalked K) := by
  refine Bx.out ?_
  simp (disch := with_unfolding_all
  exact (
  cb_of (T := t_Lwalked K) (c.def_ 27 rfl) sc_Lwalked (fun vs H Q E h => by
    obtain ⟨_, _, _, _, rfl, _⟩ := h
    rfl) (fun _ _ _ _ _ _ us hl => match us, hl with | [_, _, _, _], _ => rfl)
   (fun cdv A outer s H E hr => by
    have nd := sc_Lwalked.nd
    have ho := out_def (cxD_takes (n := false) (P := P) (w := w) (K := K) (mg := mg) (base := base) (N := N_Lwalked) (qual := "_law_walked") (st := s_Lwalked) (f := He.fAd K ("_law_walked", none)) (cdv := cdv) (A := A) (outer := outer) (s := s) (H := H) (E := E))
    have tk := cxD_takes (n := false) (P := P) (w := w) (K := K) (mg := mg) (base := base) (N := N_Lwalked) (qual := "_law_walked") (st := s_Lwalked) (f := He.fAd K ("_law_walked", none)) (cdv := cdv) (A := A) (outer := outer) (s := s) (H := H) (E := E)
    have pz := cxD_passes (n := false) (P := P) (w := w) (K := K) (mg := mg) (base := base) (N := N_Lwalked) (qual := "_law_walked") (st := s_Lwalked) (f := He.fAd K ("_law_walked", none)) (cdv := cdv) (A := A) (outer := outer) (s := s) (H := H) (E := E)
    exact pss_cons (ps_set (i := 4) nd rfl (by first | exact Or.inl rfl | exact Or.inr rfl) (pe_lst (pa_cons (pe_new (He.mkr_ok (c.fact 57 rfl)) (cb_Book_init KX G c) (hr.mono (by decide)) (He.glo_ok KX G (c.fact 55 rfl)) ho (pa_cons (pe_ix ix_seq (pv 0) (pe_int) (fun _ _ => rfl)) (pa_nil))) (pa_cons (pe_new (He.mkr_ok (c.fact 57 rfl)) (cb_Book_init KX G c) (hr.mono (by decide)) (He.glo_ok KX G (c.fact 55 rfl)) ho (pa_cons (pe_ix ix_seq (pv 0) (pe_int) (fun _ _ => rfl)) (pa_nil))) (pa_nil)))))
       (pss_cons (ps_set (i := 5) nd rfl (by first | exact Or.inl rfl | exact Or.inr rfl) (pe_lst (pa_cons (pe_dnewT) (pa_cons (pe_dnewT) (pa_nil)))))
       (pss_cons (ps_set (i := 6) nd rfl (by first | exact Or.inl rfl | exact Or.inr rfl) (pe_lst (pa_cons (pe_lst (pa_nil)) (pa_cons (pe_lst (pa_nil)) (pa_nil)))))
       (pss_cons (ps_for pz rfl (pi_enum (by rfl) (He.free_ok KX G (c.fact 23 rfl)) (pa_cons (pv 1) (pa_nil))) (pg_tup rfl (pgs_cons (pg_name (i := 7) nd rfl (by first | exact Or.inl rfl | exact Or.inr rfl)) (pgs_cons (pg_tup rfl (pgs_cons (pg_name (i := 8) nd rfl (by first | exact Or.inl rfl | exact Or.inr rfl)) (pgs_cons (pg_name (i := 9) nd rfl (by first | exact Or.inl rfl | exact Or.inr rfl)) (pgs_cons (pg_name (i := 10) nd rfl (by first | exact Or.inl rfl | exact Or.inr rfl)) (pgs_nil))))) (pgs_nil)))) (pss_one (ps_for pz rfl (pi_range1 (by rfl) (He.free_ok KX G (c.fact 20 rfl)) (pa_cons (pe_int) (pa_nil))) (pg_name (i := 11) nd rfl (by first | exact Or.inl rfl | exact Or.inr rfl)) (pss_one (ps_if (PW.pt (pw_or (pt_cmpR (o_same hr.units) (pv 11) (pe_int) (nomark _)) (pw_or1 (pt_cmpR (o_same hr.units) (pe_op o_rest (pe_callB c_len (by rfl) (He.free_ok KX G (c.fact 17 rfl)) (by decide +kernel) (pa_cons (pv 8) (pa_nil))) (pe_int)) (pe_int) (nomark _))))) (pss_cons (ps_expr (pe_bm0 PySem.F.plainAttrs_list PySem.F.slot_list_clear PySem.F.type_list_clear mt_clear (pe_ix ix_seq (pv 6) (pv 11) (fun _ _ => rfl))))
       (pss_cons (ps_expr (pe_bm PySem.F.plainAttrs_list PySem.F.slot_list_extend PySem.F.type_list_extend mt_extend (pe_ix ix_seq (pv 6) (pv 11) (fun _ _ => rfl)) (pa_cons (pv 8) (pa_nil))))
       (pss_cons (ps_if (pt_not (pt_tru (pe_fun (cb_Lright KX G c) (hr.mono (by decide)) (He.glo_ok KX G (c.fact 58 rfl)) ho (pa_cons (pe_ix ix_seq (pv 4) (pv 11) (fun _ _ => rfl)) (pa_cons (pe_ix ix_seq (pv 0) (pv 11) (fun _ _ => rfl)) (pa_cons (pe_ix ix_seq (pv 5) (pv 11) (fun _ _ => rfl)) (pa_cons (pe_ix ix_seq (pv 6) (pv 11) (fun _ _ => rfl)) (pa_cons (pv 9) (pa_nil))))))))) (pss_one (ps_ret (pe_bl))) (pss_nil))
       (pss_cons (ps_if (PW.pt (pw_and (pt_cmpR (o_same hr.units) (pv 7) (pv 2) (nomark _)) (pw_and1 (pt_not (pt_tru (pe_fun (cb_Lrefused KX G c) (hr.mono (by decide)) (He.glo_ok KX G (c.fact 59 rfl)) ho (pa_cons (pe_ix ix_seq (pv 4) (pv 11) (fun _ _ => rfl)) (pa_cons (pe_callTy c_list (by rfl) (He.free_ok KX G (c.fact 46 rfl)) (by decide +kernel) (pa_cons (pv 8) (pa_nil))) (pa_cons (pv 9) (pa_cons (pv 3) (pa_nil))))))))))) (pss_one (ps_ret (pe_bl))) (pss_nil))
       (pss_cons (ps_if (pt_cmpR o_notno (pe_mth (k := 6) (pe_ix ix_seq (pv 4) (pv 11) (fun _ _ => rfl)) (mo_one (He.cls_ok (c.fact 9 rfl)) (He.meth_ok (c.fact 54 rfl)) (cb_Book_seen KX G c) (by decide)) hr ho (pa_cons (pe_ix ix_seq (pv 6) (pv 11) (fun _ _ => rfl)) (pa_cons (pv 9) (pa_cons (pv 10) (pa_nil))))) (pe_non) (nomark _)) (pss_one (ps_ret (pe_bl))) (pss_nil))
       (pss_cons (ps_set (i := 12) nd rfl (by first | exact Or.inl rfl | exact Or.inr rfl) (pe_fun (cb_Lcontext KX G c) (hr.mono (by decide)) (He.glo_ok KX G (c.fact 48 rfl)) ho (pa_cons (pe_ix ix_seq (pv 0) (pv 11) (fun _ _ => rfl)) (pa_cons (pv 8) (pa_cons (pv 9) (pa_nil))))))
       (pss_one (ps_dput (hu_of hr) (pe_ix ix_seq (pv 5) (pv 11) (fun _ _ => rfl)) (pv 12) (pe_fun (cb_Lseen KX G c) (hr.mono (by decide)) (He.glo_ok KX G (c.fact 56 rfl)) ho (pa_cons (pe_dget2 (hu_of hr) (pe_ix ix_seq (pv 5) (pv 11) (fun _ _ => rfl)) (pv 12) (pe_lst (pa_cons (pe_int) (pa_cons (pe_int) (pa_cons (pe_int) (pa_cons (pe_int) (pa_cons (pe_int) (pa_nil))))))) ⟨rfl, rfl, rfl, rfl⟩) (pa_cons (pv 10) (pa_nil)))) rfl)))))))) (pss_nil))))))
       (pss_one (ps_ret (pe_bl)))))))
   (fun vs H Q E h => by
    obtain ⟨_, _, _, _, rfl, h⟩ := h
    haveI : SaysC K := ⟨c⟩
    exact pure_Lwalked K h))
  ) only [↓Bx.eq]
theorem ok_law (KX : K.In h) (G : h.Ns mainGlobals mg) (c : SaysX fa fn xf K) {fd : FuncData} (F : FunD K "law" "law" (defArgs s_law) (defBody s_law) (defScope s_law) [] [] (He.fAd K ("law", none)) fd) : FnOk P w K mg base (L2.CX P w) 8 (He.fAd K ("law", none)) fd ["_law_script"] (sp_law K) :=
  ok_of (n := false) (T := t_law K) F sc_law (fun vs H Q E h => by
    obtain ⟨_, rfl, _⟩ := h
    rfl)
   (fun cdv A outer s H E hr => by
    have nd := sc_law.nd
    have ho := out_def (cxD_takes (n := false) (P := P) (w := w) (K := K) (mg := mg) (base := base) (N := N_law) (qual := "law") (st := s_law) (f := He.fAd K ("law", none)) (cdv := cdv) (A := A) (outer := outer) (s := s) (H := H) (E := E))
    have tk := cxD_takes (n := false) (P := P) (w := w) (K := K) (mg := mg) (base := base) (N := N_law) (qual := "law") (st := s_law) (f := He.fAd K ("law", none)) (cdv := cdv) (A := A) (outer := outer) (s := s) (H := H) (E := E)
    have pz := cxD_passes (n := false) (P := P) (w := w) (K := K) (mg := mg) (base := base) (N := N_law) (qual := "law") (st := s_law) (f := He.fAd K ("law", none)) (cdv := cdv) (A := A) (outer := outer) (s := s) (H := H) (E := E)
    exact pss_cons (ps_set (i := 1) nd rfl (by first | exact Or.inl rfl | exact Or.inr rfl) (pe_op o_rest (pe_fun (cb_Lcell17 KX G c) (hr.mono (by decide)) (He.glo_ok KX G (c.fact 60 rfl)) ho (pa_cons (pv 0) (pa_cons (pe_int) (pa_nil)))) (pe_int)))
       (pss_cons (ps_set (i := 2) nd rfl (by first | exact Or.inl rfl | exact Or.inr rfl) (pe_ix ix_seq (pe_lst (pa_cons (pe_int) (pa_cons (pe_int) (pa_cons (pe_int) (pa_cons (pe_int) (pa_nil)))))) (pe_op o_rest (pv 1) (pe_int)) (fun _ _ => rfl)))
       (pss_cons (ps_setLc (i := 3) (own := [("_law_cell", 10)]) (g := gName 10) (tt := tYes) rfl nd rfl rfl (sw_true rfl rfl rfl (by decide +kernel)) (pi_list (pe_slice sl_list (pv 0) (po_some (pe_int)) (po_some (pe_int)))) (blkOk_by (N := N_law) (sc := defScope s_law) (by decide +kernel)) (fun _ _ _ _ _ => pg_name (i := 10) nd rfl (by first | exact Or.inl rfl | exact Or.inr rfl)) (fun _ _ _ _ _ => pts_nil) (fun _ _ _ _ _ => pe_op o_rest (pe_op o_times (pe_op o_rest (pv 10) (pv 2)) (pe_int)) (pe_int)))
       (pss_cons (ps_set (i := 4) nd rfl (by first | exact Or.inl rfl | exact Or.inr rfl) (pe_op o_rest (pe_op o_floor (pv 1) (pe_int)) (pe_op o_plus (pe_callB c_len (by rfl) (He.free_ok KX G (c.fact 17 rfl)) (by decide +kernel) (pa_cons (pv 3) (pa_nil))) (pe_int))))
       (pss_cons (ps_set (i := 5) nd rfl (by first | exact Or.inl rfl | exact Or.inr rfl) (pe_op o_rest (pe_op o_floor (pv 1) (pe_int)) (pe_op o_plus (pe_callB c_len (by rfl) (He.free_ok KX G (c.fact 17 rfl)) (by decide +kernel) (pa_cons (pv 3) (pa_nil))) (pe_int))))
       (pss_cons (ps_set (i := 6) nd rfl (by first | exact Or.inl rfl | exact Or.inr rfl) (pe_lst (pa_cons (pe_slice sl_list (pv 3) (po_none) (po_some (pv 4))) (pa_cons (pe_slice sl_list (pv 3) (po_some (pv 4)) (po_some (pv 5))) (pa_cons (pe_slice sl_list (pv 3) (po_some (pe_callB (c_max rfl) (by rfl) (He.free_ok KX G (c.fact 22 rfl)) (by decide +kernel) (pa_cons (pv 4) (pa_cons (pv 5) (pa_nil))))) (po_none)) (pa_nil))))))
       (pss_cons (ps_set (i := 7) nd rfl (by first | exact Or.inl rfl | exact Or.inr rfl) (pe_lst (pa_cons (pe_fun (cb_Llook KX G c) (hr.mono (by decide)) (He.glo_ok KX G (c.fact 61 rfl)) ho (pa_cons (pe_op o_rest (pe_fun (cb_Lcell17 KX G c) (hr.mono (by decide)) (He.glo_ok KX G (c.fact 60 rfl)) ho (pa_cons (pv 0) (pa_cons (pe_int) (pa_nil)))) (pe_int)) (pa_nil))) (pa_cons (pe_fun (cb_Llook KX G c) (hr.mono (by decide)) (He.glo_ok KX G (c.fact 61 rfl)) ho (pa_cons (pe_op o_rest (pe_fun (cb_Lcell17 KX G c) (hr.mono (by decide)) (He.glo_ok KX G (c.fact 60 rfl)) ho (pa_cons (pv 0) (pa_cons (pe_int) (pa_nil)))) (pe_int)) (pa_nil))) (pa_nil)))))
       (pss_cons (ps_set (i := 8) nd rfl (by first | exact Or.inl rfl | exact Or.inr rfl) (pe_fun (cb_Ldecisions KX G c) (hr.mono (by decide)) (He.glo_ok KX G (c.fact 62 rfl)) ho (pa_cons (pe_slice sl_list (pv 6) (po_some (pe_op o_rest (pe_op o_floor (pv 1) (pe_int)) (pe_int))) (po_none)) (pa_nil))))
       (pss_cons (ps_if (pt_not (pt_tru (pe_fun (cb_Llong KX G c) (hr.mono (by decide)) (He.glo_ok KX G (c.fact 63 rfl)) ho (pa_cons (pe_ix ix_seq (pv 7) (pe_int) (fun _ _ => rfl)) (pa_cons (pe_fun (cb_Lbits KX G c) (hr.mono (by decide)) (He.glo_ok KX G (c.fact 64 rfl)) ho (pa_cons (pv 0) (pa_cons (pe_int) (pa_nil)))) (pa_nil)))))) (pss_one (ps_ret (pe_bl))) (pss_nil))
       (pss_cons (ps_set (i := 9) nd rfl (by first | exact Or.inl rfl | exact Or.inr rfl) (pe_ix ix_seq (pe_lst (pa_cons (pe_bl) (pa_cons (pe_bl) (pa_cons (pe_int) (pa_cons (pe_un o_neg (pe_int)) (pa_cons (pe_non) (pa_cons (pe_str) (pa_cons (pe_lst (pa_cons (pe_int) (pa_nil))) (pa_nil))))))))) (pe_op o_rest (pe_op o_floor (pv 1) (pe_int)) (pe_int)) (fun _ _ => rfl)))
       (pss_one (ps_ret (pe_fun (cb_Lwalked KX G c) (hr.mono (by decide)) (He.glo_ok KX G (c.fact 65 rfl)) ho (pa_cons (pv 7) (pa_cons (pv 8) (pa_cons (pe_op o_rest (pe_op o_floor (pv 1) (pe_int)) (pe_callB (c_max rfl) (by rfl) (He.free_ok KX G (c.fact 22 rfl)) (by decide +kernel) (pa_cons (pe_int) (pa_cons (pe_callB c_len (by rfl) (He.free_ok KX G (c.fact 17 rfl)) (by decide +kernel) (pa_cons (pv 8) (pa_nil))) (pa_nil))))) (pa_cons (pv 9) (pa_nil))))))))))))))))))
   (fun vs H Q E h => by
    obtain ⟨_, rfl, h⟩ := h
    haveI : SaysC K := ⟨c⟩
    exact pure_law K h)
end
theorem facts {P : Program} {w : World} {K : PySem.W.Frag} {h : Heap} {mg : Str → Option Value} {f : Addr} (X : K.In h) (G : h.Ns mainGlobals mg) (hfa : mg ("law" : Str) = some (.ref f)) (c : SaysX fa fn xf K) :
    ∃ fd : FuncData, (∀ (s : Shared) (v : Value), BindsTo s fd ⟨[v], []⟩ [("_law_script", v)]) ∧ ∀ base : Heap, K.In base → base.Ns mainGlobals mg → FnOk P w K mg base (L2.CX P w) 8 f fd ["_law_script"] (sp_law K) := by
  obtain ⟨fd, F⟩ := c.def_ 30 rfl
  have e := hfa.symm.trans (He.glo_ok X G (c.fact 66 rfl))
  cases e
  have b := FunD.bindsA (ps := ["_law_script"]) F fun _ _ _ _ _ _ us hl => match us, hl with | [_], _ => rfl
  exact ⟨fd, fun s v => b s [v] rfl, fun base _ _ => ok_law (P := P) (w := w) (base := base) X G c F⟩
theorem cx_end {P : Program} {w : World} (H : Hp) (s : Shared) (e : Value) (s' : Shared) (z : L2.CX P w [] H s (fun _ _ _ => False) e s') : False := by
  obtain ⟨_, _, _, _, _, _, _, _, _, _, _, _, z⟩ := z
  exact z
end Fo
open PySem PySem.W PySem.Calls PyProof.Rows
theorem PySem.Challenge.cw_foretell_k17_a_book_holds : PySem.Challenge.rw_foretell_k17_a_book.Holds := by
  refine Fo.early fun said => ?_
  refine HandSHeadRun.head_any (r := Fo.W_.row) (q := view Fo.W_.row.prog [35]) (H := Fo.hk) (ob := Fo.ob) (M := 6820) (loose := Fo.loose) (d := HandSHeadRun.topDef Fo.W_.row.prog 35) (kwd := []) Fo.ob_eq
    (by kernel_rfl) (fun s => by kernel_rfl) Fo.run (by kernel_rfl) (by kernel_rfl) (by kernel_rfl) (by rfl) (by first | assumption | decide +kernel) (by decide +kernel) ⟨rfl, rfl, rfl, rfl, rfl, by decide +kernel⟩ ?hw ?hc
  case hw => w_witness2
  case hc =>
    refine L2.walk_ofE (l := Fo.W_) (n := 63) (k := 8) (x := "_law_script") (CX := fun o H s E u s' => ∃ (P : Program) (w : World), L2.CX P w o H s E u s') rfl (by decide) (by kernel_rfl) ⟨rfl, by decide, by decide⟩ ?F (fun H s e s' z => by obtain ⟨P, w, z⟩ := z; exact Fo.cx_end H s e s' z)
    intro w mg fa h Y G hmg0
    obtain ⟨K, KX, c⟩ := Y
    have hmg : mg ("law" : PySem.Str) = some (.ref fa) := by
      have e : (HandSHeadRun.topDef Fo.W_.row.prog 35).name = ("law" : PySem.Str) := by kernel_rfl
      rw [← e]
      exact hmg0
    obtain ⟨fd, hb, hF⟩ := Fo.facts (P := Fo.W_.prog) (w := w) KX G hmg c
    exact ⟨K, fd, Fo.sp_law K, KX, hb, fun H a ns hl _ hS => Fo.law_here K H a ns hl hS, fun base hB hG => Fo.cx_any (hF base hB hG)⟩


