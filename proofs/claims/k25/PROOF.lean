import PyProof.Rows.All
import PySem.Challenge.RW_foretell_k25_texts_behind_one_another
import Wide.All
import OpenK.AllK
import Wide.FinOn
import KE.KStateDown
import KE.KExcPX
import KE.GoesComp
import HandS.ForSpec
import HandS.Comp
import HandS.Conv
import HandS.Iter
import HandS.Zip
import HandS.Text
import HandS.More
import HandS.Dict
import HandS.DictComp
import HandS.Wide
import HandS.WideBits
import HandS.Flow
import HandS.IsInst
import HandS.Steps
import HandS.Defaults
import HandS.CallSlots
import HandS.CallRecv
import HandS.TryOnly
import HandS.TryElse
import HandS.ExcIs
import HandS.ExcOwn
import HandS.New0
import HandS.WordsExc
import HandS.Head0
import HandS.Head1
import HandS.Head2
import HandS.Walk
import HandS.WordsDict
import HandS.HeadEnd
import HandS.HeadHook1
import HandS.HeadHook2
import HandS.SuiteRaise
import KE.KeyNested
import KE.KDictKeyed
import HandS.Style
set_option Elab.async false
set_option linter.all false
set_option maxRecDepth 100000
set_option maxHeartbeats 4000000
namespace Fo
open PySem PySem.Spec PyProof.Rows L2
def Bx (P : Prop) : Prop := P
theorem Bx.out {P : Prop} (h : Bx P) : P := h
theorem Bx.eq (P : Prop) (h : P) : Bx P = True := eq_true h
/-! Fo: one reading for each operator, whatever the kinds of its operands; steps of readings; calls by bundles. -/
abbrev St := L2.St
abbrev Ends := L2.Ends
theorem orOp {X : Cx} {f : Value → Value → Sem Value} {r r' : R2} (h : OpR X f r) (h' : OpR X f r') : OpR X f (fun x y H Q => r x y H Q ∨ r' x y H Q) := by
  intro pins s σ H x y v u Q I rx ry q
  rcases q with q | q
  · exact h pins s σ H x y v u Q I rx ry q
  · exact h' pins s σ H x y v u Q I rx ry q
theorem orCall {X : Cx} {f : Value} {r r' : List V → Hp → VK → Prop} (h : CallR X f r) (h' : CallR X f r') : CallR X f (fun xs H Q => r xs H Q ∨ r' xs H Q) := by
  intro pins s σ H xs us Q I rs q
  rcases q with q | q
  · exact h pins s σ H xs us Q I rs q
  · exact h' pins s σ H xs us Q I rs q
/-! ### operators -/
def iAdd : R2 := rI0 fun i j => .int (i + j)
def sAdd : R2 := fun x y H Q => ∃ i j, x = .str i ∧ y = .str j ∧ i.length + j.length ≤ sizeLine ∧ Q (.str (i ++ j)) H
def rPlus (K : PySem.W.Frag) : R2 := fun x y H Q => iAdd x y H Q ∨ (rCat x y H Q ∨ (sAdd x y H Q ∨ rCatT K x y H Q))
def rMinus : R2 := rI0 fun i j => .int (i - j)
def iMul : R2 := rI IntMulOk fun i j => .int (i * j)
def rTimes : R2 := fun x y H Q => iMul x y H Q ∨ rRep x y H Q
def rFloor : R2 := rI CDivW fun i j => .int (i / j)
def rRest : R2 := rI (fun _ j => 0 < j) fun i j => .int (i % j)
def rPow : R2 := rI CPow fun i j => .int (i ^ j.toNat)
def rLsh : R2 := rI CShl fun i j => .int (i * 2 ^ j.toNat)
def rRsh : R2 := rI (fun _ j => 0 ≤ j) fun i j => .int (i / 2 ^ j.toNat)
def rMask : R2 := fun x y H Q => ∃ (i : Int) (k : Nat), x = .int i ∧ y = .int (2 ^ k - 1) ∧ Q (.int (i % 2 ^ k)) H
def rNeg : V → Hp → VK → Prop := rU fun i => .int (-i)
def iLt : R2 := rI0 fun i j => .bl (decide (i < j))
def iLe : R2 := rI0 fun i j => .bl (decide (i ≤ j))
def iGt : R2 := rI0 fun i j => .bl (decide (j < i))
def iGe : R2 := rI0 fun i j => .bl (decide (j ≤ i))
def sLe : R2 := fun x y H Q => ∃ i j, x = .str i ∧ y = .str j ∧ Q (.bl (!decide (j.cps.toList < i.cps.toList))) H
def rLe : R2 := fun x y H Q => iLe x y H Q ∨ sLe x y H Q
def rSame (K : PySem.W.Frag) : R2 := fun x y H Q => rEq x y H Q ∨ rEqD K x y H Q
def rDiff (K : PySem.W.Frag) : R2 := fun x y H Q => rNe x y H Q ∨ rNeD K x y H Q
def rDiff2 (K : PySem.W.Frag) : R2 := fun x y H Q => rDiff K x y H Q ∨ rNeDA x y H Q
def rIsNo : R2 := fun x y H Q => y = .non ∧ Q (.bl (decide (x = .non))) H
def rNotNo : R2 := fun x y H Q => y = .non ∧ Q (.bl (!decide (x = .non))) H
def rAmong (K : PySem.W.Frag) : R2 := fun x y H Q => rIn K false x y H Q ∨ rInS x y H Q
def rNotAmong (K : PySem.W.Frag) : R2 := fun x y H Q => rIn K true x y H Q ∨ rNotInS x y H Q
section
variable {X : Cx}
theorem o_plus : OpR X (binaryOp .Add) (rPlus X.K) := orOp op_add (orOp op_cat (orOp op_add_str op_catT))
theorem o_minus : OpR X (binaryOp .Sub) rMinus := op_sub
theorem o_imul : OpR X (binaryOp .Mult) iMul := opI fun _ _ _ _ _ _ _ hc q => mul_int q hc
theorem o_times : OpR X (binaryOp .Mult) rTimes := orOp o_imul op_rep
theorem o_floor : OpR X (binaryOp .FloorDiv) rFloor := op_fdivW
theorem o_rest : OpR X (binaryOp .Mod) rRest := op_mod
theorem o_pow : OpR X (binaryOp .Pow) rPow := op_pow
theorem o_lsh : OpR X (binaryOp .LShift) rLsh := op_shlW
theorem o_rsh : OpR X (binaryOp .RShift) rRsh := op_shr
theorem o_mask : OpR X (binaryOp .BitAnd) rMask := op_andM
theorem o_neg : UnR X (unaryOp .USub) rNeg := un_neg
theorem o_lt : OpR X (compareOp .Lt) iLt := op_lt
theorem o_le : OpR X (compareOp .LtE) rLe := orOp op_le op_le_str
theorem o_gt : OpR X (compareOp .Gt) iGt := op_gt
theorem o_ge : OpR X (compareOp .GtE) iGe := op_ge
theorem o_same (hu : X.A.units + 64 < cLine) : OpR X (compareOp .Eq) (rSame X.K) := orOp op_eq (op_eqD hu)
theorem o_diff (hu : X.A.units + 64 < cLine) : OpR X (compareOp .NotEq) (rDiff X.K) := orOp op_ne (op_neD hu)
theorem o_diff2 (hu : X.A.units + 64 < cLine) : OpR X (compareOp .NotEq) (rDiff2 X.K) := orOp (o_diff hu) (op_ne_dictA (by omega))
theorem o_isno : OpR X (compareOp .Is) rIsNo := op_isN
theorem o_notno : OpR X (compareOp .IsNot) rNotNo := op_notN
theorem o_among : OpR X (compareOp .In) (rAmong X.K) := orOp op_in_seq op_inS
theorem o_notamong : OpR X (compareOp .NotIn) (rNotAmong X.K) := orOp op_notIn_seq op_notInS
end
/-! ### built-ins -/
def rLength (K : PySem.W.Frag) : List V → Hp → VK → Prop := fun xs H Q => ∃ x n, xs = [x] ∧ LenV K x H n ∧ Q (.int n) H
def rListOf (K : PySem.W.Frag) : List V → Hp → VK → Prop := fun xs H Q => ∃ p ys, xs = [.ref p] ∧ (SqL K H p ys ∨ SqT K H p ys) ∧ ∀ l, H l = none → Q (.ref l) (upd H l (.lst ys))
def rTupleOf (K : PySem.W.Frag) : List V → Hp → VK → Prop := fun xs H Q => ∃ p ys, xs = [.ref p] ∧ ((SqL K H p ys ∧ ∀ l, H l = none → Q (.ref l) (upd H l (.tup ys))) ∨ (SqT K H p ys ∧ Q (.ref p) H))
def rMax2 : List V → Hp → VK → Prop := fun xs H Q => ∃ i j, xs = [.int i, .int j] ∧ Q (.int (if j > i then j else i)) H
def rMin2 : List V → Hp → VK → Prop := fun xs H Q => ∃ i j, xs = [.int i, .int j] ∧ Q (.int (if j < i then j else i)) H
def rGreatest (K : PySem.W.Frag) : List V → Hp → VK → Prop := fun xs H Q => rMax2 xs H Q ∨ L2.rMax K xs H Q
def rLeast (K : PySem.W.Frag) : List V → Hp → VK → Prop := fun xs H Q => rMin2 xs H Q ∨ L2.rMin K xs H Q
def rInt1 : List V → Hp → VK → Prop := fun xs H Q => (∃ i, xs = [.int i] ∧ Q (.int i) H) ∨ ∃ k, xs = [.bl k] ∧ Q (.int (if k then 1 else 0)) H
def rIsi2 (K : PySem.W.Frag) : List V → Hp → VK → Prop := fun xs H Q => rIsi K xs H Q ∨ rIsiT K xs H Q
section
variable {X : Cx}
theorem c_len : CallR X (.builtin "len") (rLength X.K) := call_len
theorem c_list : CallR X (.type "list") (rListOf X.K) := call_list_of
theorem c_tuple : CallR X (.type "tuple") (rTupleOf X.K) := call_tuple_of
theorem c_max (hc : X.calm = true) : CallR X (.builtin "max") (rGreatest X.K) := orCall (call_max2 hc) (cr_max hc)
theorem c_min (hc : X.calm = true) : CallR X (.builtin "min") (rLeast X.K) := orCall (call_min2 hc) (cr_min hc)
theorem c_int : CallR X (.type "int") rInt1 := call_int1
theorem c_isi : CallR X (.builtin "isinstance") (rIsi2 X.K) := orCall call_isi call_isiT
theorem c_all (hc : X.calm = true) : CallR X (.builtin "all") (rAll X.K) := cr_all hc
theorem c_any (hc : X.calm = true) : CallR X (.builtin "any") (rAny X.K) := cr_any hc
theorem c_sum (hc : X.calm = true) : CallR X (.builtin "sum") (rSum X.K) := cr_sum hc
end
/-! ### truth of a value -/
theorem pt_tru {X : Cx} {a : Expr} {ta : TE} (ha : PE X a ta) (he : ∀ whole, isTrue a X.env whole = (do let v ← whole; standAt a.pos; holding [v] (truthy v)) := by intro _; rfl) : PT X a (tTru X.K ta) := pt_truth ha he
/-! Fo, calls: a def, a method, a class, each by a bundle of what its call needs; what is raised is wished for at the slots where the call stands. -/
/-- two kinds of defs: of what one lets out the class and the dict are known (false), or that its context is None as well (true) -/
def Zf (n : Bool) (cls : Value) (d : Option Addr) : Obj → Prop := match n with
  | false => L2.Zc cls d
  | true => L2N.Zn cls d
def CXF (n : Bool) (P : Program) (w : World) : CXT := match n with
  | false => L2.CX P w
  | true => L2N.CX P w
def XEF (n : Bool) (X : Cx) (W : WX) (u : Value) (s' : Shared) : Prop :=
  ∃ (a : Addr) (B : Heap) (sI : Shared) (pins : List (Addr × Obj)) (σ : St) (H : Hp) (cls : Value) (d : Option Addr),
    u = .ref a ∧ Inv X pins σ H sI ∧ (∀ b o, sI.heap.get? b = some o → b ∉ frs X.stack → B.get? b = some o) ∧ sI.heap.UpToSlots s'.heap ∧
      Sky B X.stack a (Zf n cls d) X.env.locals s'.heap ∧ H a = none ∧ s'.os = sI.os ∧ AllBare s'.gens ∧ W cls d σ H
def TakesF (n : Bool) (X : Cx) (W : WX) : Prop := match n with
  | false => L2.Takes X W
  | true => L2N.Takes X W
theorem TakesF.go {n : Bool} {X : Cx} {W : WX} (tk : TakesF n X W) : ∀ u s', XEF n X W u s' → X.xe u s' := by
  cases n with
  | false => exact tk
  | true => exact tk
theorem Zf.steady1 {n : Bool} {cls : Value} {d : Option Addr} : PXN.Steady1 (Zf n cls d) := by
  cases n with
  | false => exact fun o v h => ⟨PXN.steady_cls o v h.1, PXN.steady_dict o v h.2⟩
  | true => exact L2N.Zn.steady
theorem CXF.ex {n : Bool} {P : Program} {w : World} {outer : List Env} {H : Hp} {s : Shared} {E : XK} {u : Value} {s' : Shared} (h : CXF n P w outer H s E u s') :
    ∃ (a : Addr) (B : Heap) (H' : Hp) (cls : Value) (d : Option Addr), u = .ref a ∧ HandSPX.FlyingZ B outer a (Zf n cls d) s'.heap ∧ HOk P w H' B ∧ UB (frs outer) H H' s.heap B s'.heap ∧ H' a = none ∧ s'.os = s.os ∧ AllBare s'.gens ∧ E cls d H' := by
  cases n with
  | false => exact h
  | true => exact h
theorem XEF.of_call {n : Bool} {X : Cx} {pins : List (Addr × Obj)} {σ : St} {H : Hp} {s s' : Shared} {W : WX} {E : XK} (I : Inv X pins σ H s) (hW : ∀ cls d H', E cls d H' → W cls d σ H') {u : Value} (c : CXF n X.prog X.w X.stack H s E u s') : XEF n X W u s' := by
  cases n with
  | false => exact L2.XE.of_call I hW c
  | true => exact L2N.XE.of_call I hW c
theorem CXF.mk {n : Bool} {P : Program} {w : World} {outer : List Env} {H : Hp} {s : Shared} {E : XK} {u : Value} {s' : Shared} 
    (h : ∃ (a : Addr) (B : Heap) (H' : Hp) (cls : Value) (d : Option Addr), u = .ref a ∧ HandSPX.FlyingZ B outer a (Zf n cls d) s'.heap ∧ HOk P w H' B ∧ UB (frs outer) H H' s.heap B s'.heap ∧ H' a = none ∧ s'.os = s.os ∧ AllBare s'.gens ∧ E cls d H') : CXF n P w outer H s E u s' := by
  cases n with
  | false => exact h
  | true => exact h
theorem cx_weak {P : Program} {w : World} {o : List Env} {H : Hp} {s : Shared} {E : XK} {u : Value} {s' : Shared} (h : L2N.CX P w o H s E u s') : L2.CX P w o H s E u s' := by
  obtain ⟨a, B, H', cls, d, e, fl, r⟩ := h
  exact ⟨a, B, H', cls, d, e, L2H.flyingZ_imp (fun o z => z.zc) fl, r⟩
/-- what is raised reaches those around, whatever the slots -/
def Out (n : Bool) (X : Cx) (E : St → XK) : Prop := (∀ σ, PassesAt (CXF true X.prog X.w) X σ (E σ)) ∧ (n = false → ∀ σ, PassesAt (CXF false X.prog X.w) X σ (E σ))
theorem Out.at_ {n m : Bool} {X : Cx} {E : St → XK} (h : Out n X E) (le : m = false → n = false) : ∀ σ, PassesAt (CXF m X.prog X.w) X σ (E σ) := by
  cases m with
  | true => exact h.1
  | false => exact h.2 (le rfl)
theorem out_of {X : Cx} {E : St → XK} (h : ∀ σ, PassesAt (L2.CX X.prog X.w) X σ (E σ)) : Out false X E := ⟨fun σ pins H s e s' I z => h σ pins H s e s' I (cx_weak z), fun _ => h⟩
theorem out_try {X : Cx} {W : WX} (tk : L2.Takes X W) : Out false X (WE W) := out_of fun σ => L2.passAt tk σ
theorem out_tryN {X : Cx} {W : WX} (tk : L2N.Takes X W) : Out true X (WE W) := ⟨fun σ => L2N.passAt tk σ, fun z => nomatch z⟩
theorem out_def {n : Bool} {X : Cx} {E : XK} (tk : TakesF n X (fun cls d _ H => E cls d H)) : Out n X (fun _ => E) := by
  cases n with
  | false => exact out_of fun σ => L2.passAt tk σ
  | true => exact ⟨fun σ => L2N.passAt tk σ, fun z => nomatch z⟩
/-- nothing is let out (a comprehension's block) -/
theorem out_none {X : Cx} : Out false X (fun _ => E0) := out_of fun _ _ _ _ _ _ _ h => by
  obtain ⟨_, _, _, _, _, _, _, _, _, _, _, _, z⟩ := h
  exact z.elim
/-- a def as it may be called: level, address, parameters, the defaults that fill up, promise -/
structure Cb (n : Bool) (P : Program) (w : World) (K : PySem.W.Frag) (mg : Str → Option Value) (base : Heap) (k : Nat) (f : Addr) (ps : List Str) (dvs : List V) (sp : Sp) : Prop where
  ex : ∃ (fd : FuncData) (ds : List Value), FnOk P w K mg base (CXF n P w) k f fd ps sp ∧ Binds K fd ps ds ∧ Vals dvs ds
  kp : PySem.W.keepIn K (.ref f) = true
abbrev CbX (n : Bool) (X : Cx) (k : Nat) (f : Addr) (ps : List Str) (dvs : List V) (sp : Sp) : Prop := Cb n X.prog X.w X.K X.mg X.base k f ps dvs sp
section
variable {n o1 : Bool} {X : Cx} {k : Nat} {f C : Addr} {ps : List Str} {sp : Sp} {dvs : List V} {E : St → XK} {x m : Str} {p pos apos : Pos} {e o : Expr} {es : List Expr} {ta : TE} {t : TA}
abbrev tFun : Sp → List V → (St → XK) → TA → TE := tCallSD
theorem pe_fun (B : CbX n X k f ps dvs sp) (hr : Room k X.A) (hm : X.mg x = some (.ref f)) (hx : Out o1 X E) (ha : PA X (e :: es) t) (hg : Gl X x := by rfl)
    (hdb : (x == ("__debug__" : Str)) = false := by decide) (he : starEach (e :: es) X.env = (false, eval e X.env) :: starEach es X.env := by rfl)
    (hpl : (backTo pos (starEach es X.env)).any (·.1) = false := by rfl) (le : n = false → o1 = false := by decide) : PE X (.Call (.Name x p) (e :: es) [] pos) (tFun sp dvs E t) := by
  obtain ⟨fd, ds, F, hb, hd⟩ := B.ex
  exact pe_callSD F hr hg hm B.kp hb hd (hx.at_ le) ha hdb he hpl
/-- o.m(..): ms tells of which classes the receiver may be, and each one's promise -/
def tMth (m : Str) (ms : Addr → Sp → Prop) (E : St → XK) (ta : TE) (t : TA) : TE := fun σ H Q =>
  ta σ H fun x H1 => ∃ a C dx fs sp, x = .ref a ∧ H1 a = some (.ins C dx fs) ∧ ms C sp ∧ fs.lookup m = none ∧ t σ H1 fun vs H2 => sp (x :: vs) H2 Q (E σ)
def one (C0 : Addr) (sp0 : Sp) : Addr → Sp → Prop := fun C sp => C = C0 ∧ sp = sp0
def oneD (C0 : Addr) (sp0 : Sp) (dvs : List V) : Addr → Sp → Prop := fun C sp => C = C0 ∧ sp = fun vs H Q E => sp0 (vs ++ dvs) H Q E
def orM (m1 m2 : Addr → Sp → Prop) : Addr → Sp → Prop := fun C sp => m1 C sp ∨ m2 C sp
/-- what is needed of each class -/
def MthOk (n : Bool) (P : Program) (w : World) (K : PySem.W.Frag) (mg : Str → Option Value) (base : Heap) (k : Nat) (m : Str) (ms : Addr → Sp → Prop) : Prop :=
  ∀ C sp, ms C sp → Cls K C ∧ ∃ (f : Addr) (ps : List Str) (dvs : List V) (sp' : Sp), Meth K C m f ∧ Cb n P w K mg base k f ps dvs sp' ∧ ∀ vs H Q E, sp vs H Q E → sp' (vs ++ dvs) H Q E
theorem mo_one {P : Program} {w : World} {K : PySem.W.Frag} {mg : Str → Option Value} {base : Heap} (c : Cls K C) (hm : Meth K C m f) {j : Nat} (B : Cb n P w K mg base j f ps [] sp) (hj : j ≤ k) : MthOk n P w K mg base k m (one C sp) := by
  rintro C' sp' ⟨rfl, rfl⟩
  obtain ⟨⟨fd, ds, F, r⟩, kp⟩ := B
  exact ⟨c, f, ps, [], sp', hm, ⟨⟨fd, ds, F.mono hj, r⟩, kp⟩, fun vs H Q E h => by rw [List.append_nil]; exact h⟩
theorem mo_oneD {P : Program} {w : World} {K : PySem.W.Frag} {mg : Str → Option Value} {base : Heap} (c : Cls K C) (hm : Meth K C m f) {j : Nat} (B : Cb n P w K mg base j f ps dvs sp) (hj : j ≤ k) : MthOk n P w K mg base k m (oneD C sp dvs) := by
  rintro C' sp' ⟨rfl, rfl⟩
  obtain ⟨⟨fd, ds, F, r⟩, kp⟩ := B
  exact ⟨c, f, ps, dvs, sp, hm, ⟨⟨fd, ds, F.mono hj, r⟩, kp⟩, fun vs H Q E h => h⟩
theorem mo_or {P : Program} {w : World} {K : PySem.W.Frag} {mg : Str → Option Value} {base : Heap} {m1 m2 : Addr → Sp → Prop} (h1 : MthOk n P w K mg base k m m1) (h2 : MthOk n P w K mg base k m m2) : MthOk n P w K mg base k m (orM m1 m2) := fun C sp h => h.elim (h1 C sp) (h2 C sp)
abbrev MForm (m : Str) (o : Expr) (es : List Expr) (apos pos : Pos) (env : Env) (pl : Sem Bool) : Prop :=
  eval (.Call (.Attribute o m apos) es [] pos) env = (do
    let ov ← eval o env
    standAt apos.atName
    let (g, first) ← holding [ov] (getMethod ov m pl)
    callWith pos g first (backTo pos (starEach es env)) (backToKw pos (keywordEach [] env)))
theorem pe_mth {pl : Sem Bool} {ms : Addr → Sp → Prop} (he : PE X o ta) (M : MthOk n X.prog X.w X.K X.mg X.base k m ms) (hr : Room k X.A) (hx : Out o1 X E) (ha : PA X (e :: es) t)
    (hst : starEach (e :: es) X.env = (false, eval e X.env) :: starEach es X.env := by rfl) (hpl : (backTo pos (starEach es X.env)).any (·.1) = false := by rfl)
    (ht : MForm m o (e :: es) apos pos X.env pl := by rfl) (le : n = false → o1 = false := by decide) : PE X (.Call (.Attribute o m apos) (e :: es) [] pos) (tMth m ms E ta t) := by
  refine ⟨fun pins s σ H Q I h => ?_⟩
  refine PySem.W.methodCall_KW (pl := pl) (thn (he.run pins s σ H _ I h) fun u s1 hh => ?_) ht
  obtain ⟨y, H1, I1, ry, a, C, dx, fs, sp, ey, ea, hC, l, q⟩ := hh
  obtain ⟨c, f, ps, dvs, sp', hm, B, imp⟩ := M C sp hC
  obtain ⟨fd, ds, F, hb, hd⟩ := B.ex
  subst ey
  obtain rfl : u = Value.ref a := ry
  refine getmeth_ok I1 ea c hm l ?_
  refine PySem.W.callWith_K (first := [.ref a]) (h₀ := X.base) I.ok.mod.kin hm.kp (thn (ha.run pos pins s1 σ H1 _ I1 q) fun us s2 hh => ?_) hst hpl
  obtain ⟨vs, H2, I2, r, q2⟩ := hh
  exact ⟨I2.kIn, run_fnSD (us := .ref a :: us) (vs := .ref a :: vs) F hr hb hd (hx.at_ le σ) I2 (.cons rfl r) (imp _ _ _ _ q2)⟩
theorem pe_mth0 {pl : Sem Bool} {ms : Addr → Sp → Prop} (he : PE X o ta) (M : MthOk n X.prog X.w X.K X.mg X.base k m ms) (hr : Room k X.A) (hx : Out o1 X E)
    (ht : MForm m o [] apos pos X.env pl := by rfl) (le : n = false → o1 = false := by decide) : PE X (.Call (.Attribute o m apos) [] [] pos) (tMth m ms E ta tNil) := by
  refine ⟨fun pins s σ H Q I h => ?_⟩
  refine PySem.W.methodCall_KW (pl := pl) (thn (he.run pins s σ H _ I h) fun u s1 hh => ?_) ht
  obtain ⟨y, H1, I1, ry, a, C, dx, fs, sp, ey, ea, hC, l, q⟩ := hh
  obtain ⟨c, f, ps, dvs, sp', hm, B, imp⟩ := M C sp hC
  obtain ⟨fd, ds, F, hb, hd⟩ := B.ex
  subst ey
  obtain rfl : u = Value.ref a := ry
  refine getmeth_ok I1 ea c hm l ?_
  exact PySem.W.callWith_K0 (first := [.ref a]) I1.kIn hm.kp (run_fnSD (us := [.ref a]) (vs := [.ref a]) F hr hb hd (hx.at_ le σ) I1 (.cons rfl .nil) (imp _ _ _ _ q))
/-- C(..): the new instance x and its dict dx, then __init__ -/
def tNew (C : Addr) (sp : Sp) (dvs : List V) (E : St → XK) (t : TA) : TE := fun σ H Q => t σ H fun vs H1 => ∀ x dx, H1 x = none → H1 dx = none → dx ≠ x →
  sp (.ref x :: (vs ++ dvs)) (upd (upd H1 dx (.own x)) x (.ins C dx [])) (fun v H2 => v = .non ∧ Q (.ref x) H2) (E σ)
theorem run_new {pins : List (Addr × Obj)} {σ : St} {H : Hp} {s : Shared} {Q : VK} {us : List Value} {vs : List V} (M : Mk X.K C f) (B : CbX n X k f ps dvs sp) (hr : Room (k + 1) X.A) (hx : Out o1 X E) (le : n = false → o1 = false) (I : Inv X pins σ H s) (r : Vals vs us)
    (h : ∀ x dx, H x = none → H dx = none → dx ≠ x → sp (.ref x :: (vs ++ dvs)) (upd (upd H dx (.own x)) x (.ins C dx [])) (fun v H2 => v = .non ∧ Q (.ref x) H2) (E σ)) :
    wpAny (model X.prog X.w) X.A (call (.ref C) us) (EP X pins σ Q) X.xe s := by
  obtain ⟨fd, ds, F, hb, hd⟩ := B.ex
  have n1 := I.hok.fresh (Nat.le_succ s.heap.objs.size)
  have n2 := I.hok.fresh (Nat.le_refl s.heap.objs.size)
  have hq := h (s.heap.objs.size + 1) s.heap.objs.size n1 n2 (Nat.ne_of_lt (Nat.lt_succ_self _))
  have I2 := Inv.made (C := C) I
  have r2 : Vals (V.ref (s.heap.objs.size + 1) :: (vs ++ dvs)) (Value.ref (s.heap.objs.size + 1) :: (us ++ ds)) := .cons rfl (r.append hd)
  have hl : (Value.ref (s.heap.objs.size + 1) :: us ++ ds).length = ps.length := r2.length.symm.trans (F.len _ _ _ _ hq)
  have go := F.run _ X.stack _ _ ⟨Value.ref (s.heap.objs.size + 1) :: us, []⟩ _ _ _ (E σ) (hr.make C us []) (I2.env0.make C us []) (hb _ (Value.ref (s.heap.objs.size + 1) :: us) I2.kIn hl) r2 hq
  refine wpAny_call (make_map (f := f) I.kIn M.makes M.init (beq_iff_eq.mp M.fn) (codeAny_mono go fun res s' hq' => ?_))
  match res, hq' with
  | .error er, hq' => exact hx.at_ le σ pins _ _ er s' I2 hq'
  | .ok (.ret u), hq' =>
    obtain ⟨rv, H', I3, rel, ev, q3⟩ := I2.after hq'
    subst ev
    exact ⟨rel, ⟨V.ref (s.heap.objs.size + 1), H', I3, rfl, q3⟩⟩
  | .ok .next, hq' => exact False.elim hq'
  | .ok .brk, hq' => exact False.elim hq'
  | .ok .cont, hq' => exact False.elim hq'
theorem pe_new (M : Mk X.K C f) (B : CbX n X k f ps dvs sp) (hr : Room (k + 1) X.A) (hm : X.mg x = some (.ref C)) (hx : Out o1 X E) (ha : PA X (e :: es) t) (hg : Gl X x := by rfl)
    (hdb : (x == ("__debug__" : Str)) = false := by decide) (he : starEach (e :: es) X.env = (false, eval e X.env) :: starEach es X.env := by rfl)
    (hpl : (backTo pos (starEach es X.env)).any (·.1) = false := by rfl) (le : n = false → o1 = false := by decide) : PE X (.Call (.Name x p) (e :: es) [] pos) (tNew C sp dvs E t) := by
  refine ⟨fun pins s σ H Q I h => ?_⟩
  refine wpAny_Call_Name_kw (ld_glob I hg hm ?_ hdb)
  refine PySem.W.callWith_K (h₀ := X.base) I.ok.mod.kin M.kp (thn (ha.run pos pins s σ H _ I h) fun us s1 hh => ?_) he hpl
  obtain ⟨vs, H1, I1, r, q⟩ := hh
  exact ⟨I1.kIn, run_new M B hr hx le I1 r q⟩
theorem pe_new0 (M : Mk X.K C f) (B : CbX n X k f ps dvs sp) (hr : Room (k + 1) X.A) (hm : X.mg x = some (.ref C)) (hx : Out o1 X E) (hg : Gl X x := by rfl)
    (hdb : (x == ("__debug__" : Str)) = false := by decide) (le : n = false → o1 = false := by decide) : PE X (.Call (.Name x p) [] [] pos) (tNew C sp dvs E tNil) := by
  refine ⟨fun pins s σ H Q I h => ?_⟩
  refine wpAny_Call_Name_kw (ld_glob I hg hm ?_ hdb)
  exact PySem.W.callWith_K0 I.kIn M.kp (run_new (us := []) M B hr hx le I .nil h)
end
/-- an own class of exceptions -/
structure Exn (K : PySem.W.Frag) (mg : Str → Option Value) (x : Str) (C : Addr) : Prop where
  g : mg x = some (.ref C)
  ok : PySem.W.excIn K C He.veBase "ValueError.__new__" = true
  kp : PySem.W.keepIn K (.ref C) = true
  sub : PySem.W.subIn K (.ref C) (.type "BaseException") = some true
  ty : PySem.W.typeIn K (.ref C) = some (.type "type")
section
variable {X : Cx} {C : Addr} {W : WX} {x m : Str} {j : Nat} {p p2 pos pos2 : Pos}
/-- raise C('m') -/
def tRz (W : WX) (C : Addr) : TS := fun _ σ H => W (.ref C) none σ H
theorem ps_rz {n : Bool} (N : Exn X.K X.mg x C) (hc : X.calm = true) (tk : TakesF n X W) (hg : Gl X x := by rfl) (hdb : (x == ("__debug__" : Str)) = false := by decide) :
    PS X (.Raise (some (.Call (.Name x p) [.Constant (.str m) j p2] [] pos)) none pos2) (tRz W C) :=
  match n, tk with
  | false, tk => L2.ps_raise hc tk (L2.pmk_own PySem.F.excBase_ValueError N.ok N.g N.kp (raises_own N.sub N.ty) hg hdb)
  | true, tk => L2N.ps_raise hc tk (L2N.pmk_own PySem.F.excBase_ValueError N.ok N.g N.kp (raises_own N.sub N.ty) hg hdb)
end
/-! ### globals as values -/
section
variable {X : Cx} {x : Str} {pos : Pos}
theorem pe_gint {i : Int} (hm : ∃ t, X.mg x = some (.int i t)) (hg : Gl X x := by rfl) (hd : (x == ("__debug__" : Str)) = false := by decide) : PE X (.Name x pos) (tC (.int i)) := by
  obtain ⟨t, hm⟩ := hm
  exact pe_glob hg hm ⟨t, rfl⟩ hd
theorem pe_gstr {z : Str} (hm : ∃ t, X.mg x = some (.str z t)) (hg : Gl X x := by rfl) (hd : (x == ("__debug__" : Str)) = false := by decide) : PE X (.Name x pos) (tC (.str z)) := by
  obtain ⟨t, hm⟩ := hm
  exact pe_glob hg hm ⟨t, rfl⟩ hd
theorem pe_gref {a : Addr} (hm : X.mg x = some (.ref a)) (hg : Gl X x := by rfl) (hd : (x == ("__debug__" : Str)) = false := by decide) : PE X (.Name x pos) (tC (.ref a)) := pe_glob hg hm rfl hd
theorem pe_gty {n : String} (hm : X.mg x = none) (hv : bootBuiltins x = some (.type n)) (hg : Gl X x := by rfl) (hn : x ≠ "__name__" := by decide) (hd : (x == ("__debug__" : Str)) = false := by decide) : PE X (.Name x pos) (tC (.ty n)) := pe_bltn hg hm hv rfl hn hd
end
/-! ### a def -/
section
variable {P : Program} {w : World} {K : PySem.W.Frag} {mg : Str → Option Value} {base : Heap} {x qual : Str} {st : Stmt} {f : Addr} {N ps : List Str} {k : Nat} {sp : Sp} {dvs : List V} {n : Bool}
abbrev DefAt (K : PySem.W.Frag) (x qual : Str) (st : Stmt) (dvs : List V) (f : Addr) : Prop := ∃ fd, FunD K x qual (defArgs st) (defBody st) (defScope st) dvs [] f fd
abbrev cxD (n : Bool) (P : Program) (w : World) (K : PySem.W.Frag) (mg : Str → Option Value) (base : Heap) (N : List Str) (qual : Str) (st : Stmt) (f : Addr) (cdv : Value) (A : Around) (outer : List Env) (s : Shared) (H : Hp) (E : XK) : Cx :=
  cxOf (CXF n P w) P w K mg base N qual (defScope st) f cdv A outer s H E
theorem cxD_takes {cdv : Value} {A : Around} {outer : List Env} {s : Shared} {H : Hp} {E : XK} : TakesF n (cxD n P w K mg base N qual st f cdv A outer s H E) (fun cls d _ H' => E cls d H') :=
  match n with
  | false => L2.takes_of rfl rfl rfl rfl
  | true => L2N.takes_of rfl rfl rfl rfl
theorem cxD_passes {cdv : Value} {A : Around} {outer : List Env} {s : Shared} {H : Hp} {E : XK} : PassesOwn (model P w) (A.deeper (envOfC qual (defScope st) s.heap.objs.size f cdv)) (envOfC qual (defScope st) s.heap.objs.size f cdv) (cxD n P w K mg base N qual st f cdv A outer s H E).xe :=
  passes_of (X := cxD n P w K mg base N qual st f cdv A outer s H E) rfl
/-- a def without defaults, by its body's reading T -/
theorem cb_of {T : XK → TS} (F : DefAt K x qual st [] f) (S : FnScope N ps (defScope st)) (len : ∀ vs H Q E, sp vs H Q E → vs.length = ps.length)
    (hb : ∀ (kV doc pm : Value) (an : Option Addr) (cdv ct : Value) (us : List Value), us.length = ps.length → bindArgs (PySem.W.fnOf x qual (defArgs st) (defBody st) (defScope st) .none kV doc pm an cdv ct) ⟨us, []⟩ = pure (ps.zip us))
    (body : ∀ (cdv : Value) (A : Around) (outer : List Env) (s : Shared) (H : Hp) (E : XK), Room k (A.deeper (envOfC qual (defScope st) s.heap.objs.size f cdv)) → PSs (cxD n P w K mg base N qual st f cdv A outer s H E) (defBody st) (T E))
    (read : ∀ vs H Q E, sp vs H Q E → T E { nx := fun _ H' => Q .non H', rt := Q } (start N vs) H) : Cb n P w K mg base (k + 1) f ps [] sp := by
  obtain ⟨fd, F⟩ := F
  exact ⟨⟨fd, [], F.ok S len fun cdv A outer s H vs Q E hr h => ⟨T E, body cdv A outer s H E hr, read vs H Q E h⟩, F.bindsN hb, .nil⟩, F.kp⟩
theorem Cb.mono {j : Nat} (B : Cb n P w K mg base j f ps dvs sp) (h : j ≤ k) : Cb n P w K mg base k f ps dvs sp := by
  obtain ⟨⟨fd, ds, F, r⟩, kp⟩ := B
  exact ⟨⟨fd, ds, F.mono h, r⟩, kp⟩
theorem Cb.imp {sp' : Sp} (B : Cb n P w K mg base k f ps dvs sp) (h : ∀ vs H Q E, sp' vs H Q E → sp vs H Q E) : Cb n P w K mg base k f ps dvs sp' := by
  obtain ⟨⟨fd, ds, F, r⟩, kp⟩ := B
  exact ⟨⟨fd, ds, F.imp h, r⟩, kp⟩
end
theorem tkF {X : Cx} {W : WX} (tk : L2.Takes X W) : TakesF false X W := tk
theorem tkN {X : Cx} {W : WX} (tk : L2N.Takes X W) : TakesF true X W := tk
/-! Fo, steps: one for each form of a reading; what is left is what the form asks. -/
/-! ### lists of slots -/
inductive SetR : St → Nat → Option V → St → Prop
  | zero {a x : Option V} {l : St} : SetR (a :: l) 0 x (x :: l)
  | succ {a x : Option V} {l l' : St} {i : Nat} : SetR l i x l' → SetR (a :: l) (i + 1) x (a :: l')
theorem SetR.eq {σ σ' : St} {i : Nat} {x : Option V} (h : SetR σ i x σ') : σ.set i x = σ' := by
  induction h with
  | zero => rfl
  | succ _ ih => rw [List.set_cons_succ, ih]
/-- n at the slots with v put in place i -/
def asgn (i : Nat) (n : St → Hp → Prop) (v : V) (σ : St) (H : Hp) : Prop := n (σ.set i (some v)) H
def lstK (vs : List V) (H : Hp) (Q : VK) : Prop := vs.length ≤ sizeLine ∧ ∀ p, H p = none → Q (.ref p) (upd H p (.lst vs))
def tupK (vs : List V) (H : Hp) (Q : VK) : Prop := vs.length ≤ sizeLine ∧ ∀ p, H p = none → Q (.ref p) (upd H p (.tup vs))
def fldK (K : PySem.W.Frag) (f : Str) (x : V) (H : Hp) (Q : VK) : Prop := ∃ a C dx fs v, x = .ref a ∧ H a = some (.ins C dx fs) ∧ Cls K C ∧ NoAttr K C f ∧ fs.lookup f = some v ∧ Q v H
def stoK (K : PySem.W.Frag) (f : Str) (y x : V) (H : Hp) (n : Hp → Prop) : Prop := ∃ a C dx fs, x = .ref a ∧ H a = some (.ins C dx fs) ∧ Cls K C ∧ NoAttr K C f ∧ fs.length < 1000 ∧ n (upd H a (.ins C dx (putF f y fs)))
section
variable {K : PySem.W.Frag} {σ σ' : St} {H H' : Hp} {Q : VK} {R : Bool → Hp → Prop} {S : List V → Hp → Prop} {te ta tb tc : TE} {t u : TS} {tt tu : TT} {tl : TA} {x y v : V} {i j : Int} {k b : Bool} {r r' : R2} {z z' : Str}
variable {n : St → Hp → Prop} {rt : VK} {bk ct : St → Hp → Prop} {m : Nat} {p q : Addr} {xs ys vs : List V}
/-! ### expressions -/
theorem g_var (h : σ[m]? = some (some v)) (q : Q v H) : tVar m σ H Q := ⟨v, h, q⟩
theorem g_c (q : Q v H) : tC v σ H Q := q
theorem g_op (q : ta σ H fun x H1 => tb σ H1 fun y H2 => r x y H2 Q) : tOp r ta tb σ H Q := q
theorem g_un {r : V → Hp → VK → Prop} (q : ta σ H fun x H1 => r x H1 Q) : tUn r ta σ H Q := q
theorem g_cb {r : List V → Hp → VK → Prop} (q : tl σ H fun vs H1 => r vs H1 Q) : tCB r tl σ H Q := q
theorem g_nil (q : S [] H) : tNil σ H S := q
theorem g_cons {tr : TA} (q : te σ H fun x H1 => tr σ H1 fun xs H2 => S (x :: xs) H2) : tCons te tr σ H S := q
theorem g_bm {T : String} {r : V → List V → Hp → VK → Prop} (q : te σ H fun x H1 => tyV K T x H1 ∧ tl σ H1 fun xs H2 => r x xs H2 Q) : tBM K T r te tl σ H Q := q
theorem g_bm0 {T : String} {r : V → List V → Hp → VK → Prop} (q : te σ H fun x H1 => tyV K T x H1 ∧ r x [] H1 Q) : tBM0 K T r te σ H Q := q
theorem g_lst (q : tl σ H fun vs H1 => lstK vs H1 Q) : tLst tl σ H Q := q
theorem g_tup (q : tl σ H fun vs H1 => tupK vs H1 Q) : tTup tl σ H Q := q
theorem g_fld {f : Str} (q : te σ H fun x H1 => fldK K f x H1 Q) : tFld K te f σ H Q := q
theorem g_fun {sp : Sp} {dvs : List V} {E : St → XK} (q : tl σ H fun vs H1 => sp (vs ++ dvs) H1 Q (E σ)) : tFun sp dvs E tl σ H Q := q
theorem g_new {C : Addr} {sp : Sp} {dvs : List V} {E : St → XK} (q : tl σ H fun vs H1 => ∀ x dx, H1 x = none → H1 dx = none → dx ≠ x → sp (.ref x :: (vs ++ dvs)) (upd (upd H1 dx (.own x)) x (.ins C dx [])) (fun v H2 => v = .non ∧ Q (.ref x) H2) (E σ)) :
    tNew C sp dvs E tl σ H Q := q
theorem g_mth {f : Str} {ms : Addr → Sp → Prop} {E : St → XK} (q : te σ H fun x H1 => ∃ a C dx fs sp, x = .ref a ∧ H1 a = some (.ins C dx fs) ∧ ms C sp ∧ fs.lookup f = none ∧ tl σ H1 fun vs H2 => sp (x :: vs) H2 Q (E σ)) : tMth f ms E te tl σ H Q := q
theorem g_andV (q : ta σ H fun x H1 => ∃ c, x = .bl c ∧ if c = true then tb σ H1 Q else Q (.bl false) H1) : tAndV ta tb σ H Q := q
theorem g_orV (q : ta σ H fun x H1 => ∃ c, x = .bl c ∧ if c = true then Q (.bl true) H1 else tb σ H1 Q) : tOrV ta tb σ H Q := q
theorem g_notV (q : te σ H fun x H1 => ∃ c, x = .bl c ∧ Q (.bl (!c)) H1) : tNotV te σ H Q := q
theorem g_chain (q : ta σ H fun x H1 => tb σ H1 fun y H2 => r x y H2 fun z H3 => ∃ k, z = .bl k ∧ if k = true then tc σ H3 fun w H4 => r' y w H4 Q else Q (.bl false) H3) : tChain r r' ta tb tc σ H Q := q
theorem g_sl {rr : V → Option Int → Option Int → Hp → VK → Prop} {to1 to2 : TO} (q : te σ H fun x H1 => to1 σ H1 fun a H2 => to2 σ H2 fun b H3 => rr x a b H3 Q) : tSl rr te to1 to2 σ H Q := q
theorem g_part {S : Option Int → Hp → Prop} (q : te σ H fun x H1 => ∃ i, x = .int i ∧ S (some i) H1) : tPart te σ H S := q
theorem g_nopart {S : Option Int → Hp → Prop} (q : S none H) : tNoPart σ H S := q
theorem g_bits (q : te σ H fun x H1 => ∃ i, x = .int i ∧ Q (.int (Builtin.Int.intBits i : Nat)) H1) : tBits te σ H Q := q
theorem g_dget (q : ta σ H fun x H1 => tb σ H1 fun y H2 => ∃ a v, x = .ref a ∧ DGet H2 a y (some v) ∧ Q v H2) : tDGet ta tb σ H Q := q
theorem g_din (q : ta σ H fun y H1 => tb σ H1 fun x H2 => ∃ a o, x = .ref a ∧ DGet H2 a y o ∧ Q (.bl o.isSome) H2) : tDIn ta tb σ H Q := q
theorem g_dnotin (q : ta σ H fun y H1 => tb σ H1 fun x H2 => ∃ a o, x = .ref a ∧ DGet H2 a y o ∧ Q (.bl (!o.isSome)) H2) : tDNotIn ta tb σ H Q := q
/-! ### values that are known -/
theorem g_int (q : ∀ w, w = i → ∃ j, V.int w = .int j ∧ Q (.int j) H) : ∃ j, V.int i = .int j ∧ Q (.int j) H := q i rfl
theorem g_eint {T : Int → Prop} (q : T i) : ∃ j, V.int i = .int j ∧ T j := ⟨i, rfl, q⟩
theorem g_ebl {T : Bool → Prop} (q : T b) : ∃ j, V.bl b = .bl j ∧ T j := ⟨b, rfl, q⟩
theorem g_plus (q : Q (.int (i + j)) H) : rPlus K (.int i) (.int j) H Q := .inl ⟨i, j, rfl, rfl, q⟩
theorem g_cat (hx : H p = some (.lst xs)) (hy : H m = some (.lst ys)) (hl : xs.length + ys.length ≤ sizeLine) (q : ∀ l, H l = none → Q (.ref l) (upd H l (.lst (xs ++ ys)))) : rPlus K (.ref p) (.ref m) H Q := .inr (.inl ⟨p, m, xs, ys, rfl, rfl, hx, hy, hl, q⟩)
theorem g_plusS (hl : z.length + z'.length ≤ sizeLine) (q : Q (.str (z ++ z')) H) : rPlus K (.str z) (.str z') H Q := .inr (.inr (.inl ⟨z, z', rfl, rfl, hl, q⟩))
theorem g_minus (q : Q (.int (i - j)) H) : rMinus (.int i) (.int j) H Q := ⟨i, j, rfl, rfl, q⟩
theorem g_times (h : IntMulOk i j) (q : Q (.int (i * j)) H) : rTimes (.int i) (.int j) H Q := .inl ⟨i, j, rfl, rfl, h, q⟩
theorem g_rep (hx : H p = some (.lst xs)) (h1 : -(2 ^ 63) ≤ i) (h2 : i < 2 ^ 63) (hl : xs.length * i.toNat ≤ sizeLine) (q : ∀ l, H l = none → Q (.ref l) (upd H l (.lst (List.replicate i.toNat xs).flatten))) : rTimes (.ref p) (.int i) H Q :=
  .inr ⟨p, i, xs, rfl, rfl, hx, h1, h2, hl, q⟩
theorem g_floor (h : CDivW i j) (q : Q (.int (i / j)) H) : rFloor (.int i) (.int j) H Q := ⟨i, j, rfl, rfl, h, q⟩
theorem g_rest (h : 0 < j) (q : Q (.int (i % j)) H) : rRest (.int i) (.int j) H Q := ⟨i, j, rfl, rfl, h, q⟩
theorem g_pow (h : CPow i j) (q : Q (.int (i ^ j.toNat)) H) : L2.rI CPow (fun i j => .int (i ^ j.toNat)) (.int i) (.int j) H Q := ⟨i, j, rfl, rfl, h, q⟩
theorem g_lsh (h : CShl i j) (q : Q (.int (i * 2 ^ j.toNat)) H) : rLsh (.int i) (.int j) H Q := ⟨i, j, rfl, rfl, h, q⟩
theorem g_rsh (h : 0 ≤ j) (q : Q (.int (i / 2 ^ j.toNat)) H) : rRsh (.int i) (.int j) H Q := ⟨i, j, rfl, rfl, h, q⟩
theorem g_neg (q : Q (.int (-i)) H) : rNeg (.int i) H Q := ⟨i, rfl, q⟩
theorem g_lt (q : Q (.bl (decide (i < j))) H) : iLt (.int i) (.int j) H Q := ⟨i, j, rfl, rfl, q⟩
theorem g_le (q : Q (.bl (decide (i ≤ j))) H) : rLe (.int i) (.int j) H Q := .inl ⟨i, j, rfl, rfl, q⟩
theorem g_leS (q : Q (.bl (!decide (z'.cps.toList < z.cps.toList))) H) : rLe (.str z) (.str z') H Q := .inr ⟨z, z', rfl, rfl, q⟩
theorem g_gt (q : Q (.bl (decide (j < i))) H) : iGt (.int i) (.int j) H Q := ⟨i, j, rfl, rfl, q⟩
theorem g_ge (q : Q (.bl (decide (j ≤ i))) H) : iGe (.int i) (.int j) H Q := ⟨i, j, rfl, rfl, q⟩
theorem dec_int (i j : Int) : decide (V.int i = V.int j) = decide (i = j) := by
  by_cases h : i = j
  · rw [decide_eq_true h, decide_eq_true (by rw [h])]
  · rw [decide_eq_false h, decide_eq_false (fun e => h (V.int.inj e))]
theorem dec_str (i j : Str) : decide (V.str i = V.str j) = decide (i = j) := by
  by_cases h : i = j
  · rw [decide_eq_true h, decide_eq_true (by rw [h])]
  · rw [decide_eq_false h, decide_eq_false (fun e => h (V.str.inj e))]
theorem g_same (q : Q (.bl (decide (i = j))) H) : rSame K (.int i) (.int j) H Q := .inl ⟨rfl, by rw [dec_int]; exact q⟩
theorem g_diff (q : Q (.bl (!decide (i = j))) H) : rDiff K (.int i) (.int j) H Q := .inl ⟨rfl, by rw [dec_int]; exact q⟩
theorem g_sameS (q : Q (.bl (decide (z = z'))) H) : rSame K (.str z) (.str z') H Q := .inl ⟨rfl, by rw [dec_str]; exact q⟩
theorem g_diffS (q : Q (.bl (!decide (z = z'))) H) : rDiff K (.str z) (.str z') H Q := .inl ⟨rfl, by rw [dec_str]; exact q⟩
theorem g_isno (q : Q (.bl (decide (x = .non))) H) : rIsNo x .non H Q := ⟨rfl, q⟩
theorem g_notno (q : Q (.bl (!decide (x = .non))) H) : rNotNo x .non H Q := ⟨rfl, q⟩
theorem g_lenL (h : SqL K H p xs) (q : Q (.int (xs.length : Int)) H) : rLength K [.ref p] H Q := ⟨.ref p, xs.length, rfl, .inl ⟨xs, h, rfl⟩, q⟩
theorem g_lenT (h : SqT K H p xs) (q : Q (.int (xs.length : Int)) H) : rLength K [.ref p] H Q := ⟨.ref p, xs.length, rfl, .inr ⟨xs, h, rfl⟩, q⟩
theorem g_lenS (h : z.length ≤ sizeLine) (q : Q (.int (z.length : Int)) H) : rLength K [.str z] H Q := ⟨.str z, z.length, rfl, ⟨h, rfl⟩, q⟩
theorem g_listL (h : SqL K H p xs) (q : ∀ l, H l = none → Q (.ref l) (upd H l (.lst xs))) : rListOf K [.ref p] H Q := ⟨p, xs, rfl, .inl h, q⟩
theorem g_listT (h : SqT K H p xs) (q : ∀ l, H l = none → Q (.ref l) (upd H l (.lst xs))) : rListOf K [.ref p] H Q := ⟨p, xs, rfl, .inr h, q⟩
theorem g_tupleL (h : SqL K H p xs) (q : ∀ l, H l = none → Q (.ref l) (upd H l (.tup xs))) : rTupleOf K [.ref p] H Q := ⟨p, xs, rfl, .inl ⟨h, q⟩⟩
theorem g_max2 (q : Q (.int (if j > i then j else i)) H) : rGreatest K [.int i, .int j] H Q := .inl ⟨i, j, rfl, q⟩
theorem g_min2 (q : Q (.int (if j < i then j else i)) H) : rLeast K [.int i, .int j] H Q := .inl ⟨i, j, rfl, q⟩
theorem g_intI (q : Q (.int i) H) : rInt1 [.int i] H Q := .inl ⟨i, rfl, q⟩
theorem g_intB (q : Q (.int (if b then 1 else 0)) H) : rInt1 [.bl b] H Q := .inr ⟨b, rfl, q⟩
theorem g_all {bs : List Bool} (h : SqL K H p (bs.map V.bl)) (q : Q (.bl (bs.all id)) H) : rAll K [.ref p] H Q := ⟨p, bs, rfl, h, q⟩
theorem g_any {bs : List Bool} (h : SqL K H p (bs.map V.bl)) (q : Q (.bl (bs.any id)) H) : rAny K [.ref p] H Q := ⟨p, bs, rfl, h, q⟩
theorem g_sum {ns : List Int} (h : SqL K H p (ns.map V.int)) (q : Q (.int ns.sum) H) : rSum K [.ref p] H Q := ⟨p, ns, rfl, h, q⟩
theorem g_ixL (h : SqL K H p xs) (ha : atI xs i = some v) (q : Q v H) : rIx K (.ref p) (.int i) H Q := .inl ⟨p, xs, i, v, rfl, rfl, h, ha, q⟩
theorem g_ixT (h : SqT K H p xs) (ha : atI xs i = some v) (q : Q v H) : rIx K (.ref p) (.int i) H Q := .inr (.inl ⟨p, xs, i, v, rfl, rfl, h, ha, q⟩)
theorem g_ixS {c : Nat} (hl : z.length ≤ sizeLine) (ha : atI z.cps.toList i = some c) (q : Q (.str ⟨#[c]⟩) H) : rIx K (.str z) (.int i) H Q := .inr (.inr ⟨z, i, c, rfl, rfl, hl, ha, q⟩)
theorem g_slL {lo hi : Option Int} (h : SqL K H p xs) (q : ∀ l, H l = none → Q (.ref l) (upd H l (.lst (cutV xs lo hi)))) : rSlL K (.ref p) lo hi H Q := ⟨p, xs, rfl, h, q⟩
theorem g_isi {s : Str} {tn cn : String} (ht : TyX K H x (.type tn)) (hk : kitB tn cn = some b) (q : Q (.bl b) H) : rIsi2 K [x, .ty cn] H Q := .inl ⟨x, .ty cn, .type tn, .type cn, b, rfl, .ty cn, ht, kit_ty hk, q⟩
theorem g_append (h : H p = some (.lst xs)) (hl : xs.length < sizeLine) (q : Q .non (upd H p (.lst (xs ++ [y])))) : rAppend (.ref p) [y] H Q := ⟨p, xs, y, rfl, rfl, h, hl, q⟩
theorem g_reverse (h : H p = some (.lst xs)) (q : Q .non (upd H p (.lst xs.reverse))) : rReverse (.ref p) [] H Q := ⟨p, xs, rfl, rfl, h, q⟩
theorem g_clear (h : H p = some (.lst xs)) (q : Q .non (upd H p (.lst []))) : rClear (.ref p) [] H Q := ⟨p, xs, rfl, rfl, h, q⟩
theorem g_tyL {A : Prop} (h : SqL K H p xs) (q : A) : tyV K "list" (.ref p) H ∧ A := ⟨.inl ⟨rfl, xs, h⟩, q⟩
theorem g_tyS {A : Prop} (q : A) : tyV K "str" (.str z) H ∧ A := ⟨rfl, q⟩
theorem g_lstK (hl : vs.length ≤ sizeLine) (q : ∀ p, H p = none → Q (.ref p) (upd H p (.lst vs))) : lstK vs H Q := ⟨hl, q⟩
theorem g_tupK (hl : vs.length ≤ sizeLine) (q : ∀ p, H p = none → Q (.ref p) (upd H p (.tup vs))) : tupK vs H Q := ⟨hl, q⟩
theorem g_fldK {f : Str} {C dx : Addr} {fs : List (Str × V)} (h : H p = some (.ins C dx fs)) (c : Cls K C) (na : NoAttr K C f) (hl : fs.lookup f = some v) (q : Q v H) : fldK K f (.ref p) H Q := ⟨p, C, dx, fs, v, rfl, h, c, na, hl, q⟩
theorem g_stoK {f : Str} {C dx : Addr} {fs : List (Str × V)} {n : Hp → Prop} (h : H p = some (.ins C dx fs)) (c : Cls K C) (na : NoAttr K C f) (hl : fs.length < 1000) (q : n (upd H p (.ins C dx (putF f y fs)))) : stoK K f y (.ref p) H n := ⟨p, C, dx, fs, rfl, h, c, na, hl, q⟩
/-! ### tests -/
theorem g_test (q : te σ H fun x H1 => ∃ c, x = .bl c ∧ R c H1) : tTest te σ H R := q
theorem g_B (q : te σ H fun x H1 => ∃ c, x = .bl c ∧ R c H1) : tB te σ H R := q
theorem g_tru (q : te σ H fun x H1 => ∃ c, TruV K x H1 c ∧ R c H1) : tTru K te σ H R := q
theorem g_truB {T : Bool → Prop} (q : T b) : ∃ c, TruV K (.bl b) H c ∧ T c := ⟨b, rfl, q⟩
theorem g_and (q : tt σ H fun c H1 => if c = true then tu σ H1 R else R false H1) : tAnd tt tu σ H R := q
theorem g_or (q : tt σ H fun c H1 => if c = true then R true H1 else tu σ H1 R) : tOr tt tu σ H R := q
theorem g_not (q : tt σ H fun c H1 => R (!c) H1) : tNot tt σ H R := q
theorem g_ifT {A B : Prop} (q : A) : if true = true then A else B := iteT q
theorem g_ifF {A B : Prop} (q : B) : if false = true then A else B := iteF q
theorem g_ifNT {A B : Prop} (q : B) : if (!true) = true then A else B := iteF q
theorem g_ifNF {A B : Prop} (q : A) : if (!false) = true then A else B := iteT q
theorem dif {c A B : Prop} [Decidable c] (h1 : c → A) (h2 : ¬ c → B) : if decide c = true then A else B := by
  by_cases h : c
  · rw [decide_eq_true h]; exact iteT (h1 h)
  · rw [decide_eq_false h]; exact iteF (h2 h)
theorem difN {c A B : Prop} [Decidable c] (h1 : ¬ c → A) (h2 : c → B) : if (!decide c) = true then A else B := by
  by_cases h : c
  · rw [decide_eq_true h]; exact iteF (h2 h)
  · rw [decide_eq_false h]; exact iteT (h1 h)
theorem difB {A B : Prop} (h1 : b = true → A) (h2 : b = false → B) : if b = true then A else B := by
  cases b with
  | true => exact iteT (h1 rfl)
  | false => exact iteF (h2 rfl)
theorem difNB {A B : Prop} (h1 : b = false → A) (h2 : b = true → B) : if (!b) = true then A else B := by
  cases b with
  | true => exact iteF (h2 rfl)
  | false => exact iteT (h1 rfl)
theorem difY {c A B : Prop} [Decidable c] (h : c) (q : A) : if decide c = true then A else B := by rw [decide_eq_true h]; exact iteT q
theorem difX {c A B : Prop} [Decidable c] (h : ¬ c) (q : B) : if decide c = true then A else B := by rw [decide_eq_false h]; exact iteF q
/-! ### statements -/
theorem g_seq (q : t ⟨u ⟨n, rt, bk, ct⟩, rt, bk, ct⟩ σ H) : tSeq t u ⟨n, rt, bk, ct⟩ σ H := q
theorem g_next (q : n σ H) : tNext ⟨n, rt, bk, ct⟩ σ H := q
theorem g_drop (q : te σ H fun _ H1 => n σ H1) : tDrop te ⟨n, rt, bk, ct⟩ σ H := q
theorem g_ret (q : te σ H rt) : tRet te ⟨n, rt, bk, ct⟩ σ H := q
theorem g_retN (q : rt .non H) : tRetN ⟨n, rt, bk, ct⟩ σ H := q
theorem g_asg (q : te σ H fun v H1 => asgn m n v σ H1) : tAsg te (gName m) ⟨n, rt, bk, ct⟩ σ H := q
theorem g_asgn (r : SetR σ m (some v) σ') (q : n σ' H) : asgn m n v σ H := by unfold asgn; rw [r.eq]; exact q
theorem g_if (q : tt σ H fun c H1 => if c = true then t ⟨n, rt, bk, ct⟩ σ H1 else u ⟨n, rt, bk, ct⟩ σ H1) : tIfS tt t u ⟨n, rt, bk, ct⟩ σ H := q
theorem g_aug {ti : TIp} (hx : σ[m]? = some (some x)) (q : te σ H fun y H1 => ti x y H1 fun z H2 => asgn m n z σ H2) : tAug m te ti ⟨n, rt, bk, ct⟩ σ H := ⟨x, hx, q⟩
theorem g_ip {f : Int → Int → Int} (q : Q (.int (f i j)) H) : ipI f (.int i) (.int j) H Q := ⟨i, j, rfl, rfl, q⟩
theorem g_sto {f : Str} (q : tb σ H fun y H1 => ta σ H1 fun x H2 => stoK K f y x H2 fun H3 => n σ H3) : sFld K ta tb f ⟨n, rt, bk, ct⟩ σ H := q
theorem g_rz {W : WX} {C : Addr} (q : W (.ref C) none σ H) : tRz W C ⟨n, rt, bk, ct⟩ σ H := q
/-! ### promises by the number of arguments -/
end
def on1 (F : V → Hp → VK → XK → Prop) : Sp := fun vs H Q E => ∃ a, vs = [a] ∧ F a H Q E
def on2 (F : V → V → Hp → VK → XK → Prop) : Sp := fun vs H Q E => ∃ a b, vs = [a, b] ∧ F a b H Q E
def on3 (F : V → V → V → Hp → VK → XK → Prop) : Sp := fun vs H Q E => ∃ a b c, vs = [a, b, c] ∧ F a b c H Q E
def on4 (F : V → V → V → V → Hp → VK → XK → Prop) : Sp := fun vs H Q E => ∃ a b c d, vs = [a, b, c, d] ∧ F a b c d H Q E
def on5 (F : V → V → V → V → V → Hp → VK → XK → Prop) : Sp := fun vs H Q E => ∃ a b c d e, vs = [a, b, c, d, e] ∧ F a b c d e H Q E
section
variable {H : Hp} {Q : VK} {E : XK} {a b c d e : V}
theorem g_on1 {F : V → Hp → VK → XK → Prop} (q : F a H Q E) : on1 F ([a] ++ []) H Q E := ⟨a, rfl, q⟩
theorem g_on2 {F : V → V → Hp → VK → XK → Prop} (q : F a b H Q E) : on2 F ([a, b] ++ []) H Q E := ⟨a, b, rfl, q⟩
theorem g_on3 {F : V → V → V → Hp → VK → XK → Prop} (q : F a b c H Q E) : on3 F ([a, b, c] ++ []) H Q E := ⟨a, b, c, rfl, q⟩
theorem g_on4 {F : V → V → V → V → Hp → VK → XK → Prop} (q : F a b c d H Q E) : on4 F ([a, b, c, d] ++ []) H Q E := ⟨a, b, c, d, rfl, q⟩
end
/-! ### what stands where -/
section
variable {K : PySem.W.Frag} {H H1 : Hp} {a p : Addr} {o u : HO} {xs : List V}
theorem lk_new (h : H a = some o) (hp : H p = none) : upd H p u a = some o := by rw [upd_ne (ne_of_none h hp)]; exact h
theorem lk_mut (hn : a ≠ p) (h : H a = some o) : upd H p u a = some o := by rw [upd_ne hn]; exact h
theorem sq_new (h : SqL K H a xs) (hp : H p = none) : SqL K (upd H p u) a xs := by
  rcases h with (h | ⟨v, h⟩) | h
  · exact .inl (.inl (lk_new h hp))
  · exact .inl (.inr ⟨v, lk_new h hp⟩)
  · exact .inr h
theorem sq_mut (hn : a ≠ p) (h : SqL K H a xs) : SqL K (upd H p u) a xs := by
  rcases h with (h | ⟨v, h⟩) | h
  · exact .inl (.inl (lk_mut hn h))
  · exact .inl (.inr ⟨v, lk_mut hn h⟩)
  · exact .inr h
theorem st_new (h : SqT K H a xs) (hp : H p = none) : SqT K (upd H p u) a xs := by
  rcases h with (h | ⟨v, h⟩) | h
  · exact .inl (.inl (lk_new h hp))
  · exact .inl (.inr ⟨v, lk_new h hp⟩)
  · exact .inr h
theorem st_mut (hn : a ≠ p) (h : SqT K H a xs) : SqT K (upd H p u) a xs := by
  rcases h with (h | ⟨v, h⟩) | h
  · exact .inl (.inl (lk_mut hn h))
  · exact .inl (.inr ⟨v, lk_mut hn h⟩)
  · exact .inr h
theorem sq_of (h : H a = some (.lst xs)) : SqL K H a xs := .inl (.inl h)
theorem stt_of (h : H a = some (.tup xs)) : SqT K H a xs := .inl (.inl h)
theorem Same.tup (e : Same H H1) (h : SqT K H a xs) : SqT K H1 a xs := by
  rcases h with (h | ⟨v, h⟩) | h
  · exact .inl (.inl (e _ _ h))
  · exact .inl (.inr ⟨v, e _ _ h⟩)
  · exact .inr h
theorem same_new (e : Same H H1) (hp : H1 p = none) : Same H (upd H1 p u) := fun b x h => lk_new (e b x h) hp
theorem same_mut (e : Same H H1) (hp : H p = none) : Same H (upd H1 p u) := fun b x h => lk_mut (ne_of_none h hp) (e b x h)
/-- a sequence's place is another than a mutable thing's -/
theorem sq_ne (h : SqL K H a xs) (hK : ∀ o, K.lookup a = some o → H p = none → a ≠ p) (hp : H p = none) : a ≠ p := by
  rcases h with (h | ⟨v, h⟩) | ⟨o, _, _, h, _⟩
  · exact ne_of_none h hp
  · exact ne_of_none h hp
  · exact hK o h hp
end
theorem lk_same {H H1 : Hp} {a : Addr} {o : HO} (e : Same H H1) (h : H a = some o) : H1 a = some o := e a o h
theorem lk_newF {H : Hp} {a p : Addr} {o u : HO} (hp : H p = none) (h : H a = some o) : upd H p u a = some o := lk_new h hp
theorem sq_newF {K : PySem.W.Frag} {H : Hp} {a p : Addr} {u : HO} {xs : List V} (hp : H p = none) (h : SqL K H a xs) : SqL K (upd H p u) a xs := sq_new h hp
theorem st_newF {K : PySem.W.Frag} {H : Hp} {a p : Addr} {u : HO} {xs : List V} (hp : H p = none) (h : SqT K H a xs) : SqT K (upd H p u) a xs := st_new h hp
theorem same_newF {H H1 : Hp} {p : Addr} {u : HO} (hp : H1 p = none) (e : Same H H1) : Same H (upd H1 p u) := same_new e hp
theorem same_mutF {H H1 : Hp} {p : Addr} {u : HO} (hp : H p = none) (e : Same H H1) : Same H (upd H1 p u) := same_mut e hp
theorem same_transF {H H1 H2 : Hp} (f : Same H1 H2) (e : Same H H1) : Same H H2 := Same.trans e f
theorem ne_of_noneF {H : Hp} {a p : Addr} {o : HO} (hp : H p = none) (h : H a = some o) : a ≠ p := ne_of_none h hp
theorem lkF {H H1 : Hp} {a : Addr} {o : HO} (h : H a = some o) (e : Same H H1) : H1 a = some o := e a o h
theorem sqF {K : PySem.W.Frag} {H H1 : Hp} {a : Addr} {xs : List V} (h : SqL K H a xs) (e : Same H H1) : SqL K H1 a xs := e.seq h
theorem sqLF {K : PySem.W.Frag} {H H1 : Hp} {a : Addr} {xs : List V} (h : H a = some (.lst xs)) (e : Same H H1) : SqL K H1 a xs := sq_of (e _ _ h)
theorem tqF {K : PySem.W.Frag} {H H1 : Hp} {a : Addr} {xs : List V} (h : SqT K H a xs) (e : Same H H1) : SqT K H1 a xs := Same.tup e h
theorem tqLF {K : PySem.W.Frag} {H H1 : Hp} {a : Addr} {xs : List V} (h : H a = some (.tup xs)) (e : Same H H1) : SqT K H1 a xs := stt_of (e _ _ h)
/-! Fo, loops and comprehensions over ints and over any values. -/
theorem map_at {α : Type} {f : α → V} {ns : List α} {i : Nat} {x : V} (h : (ns.map f)[i]? = some x) : ∃ z, ns[i]? = some z ∧ x = f z := by
  rw [List.getElem?_map] at h
  cases e : ns[i]? with
  | none => rw [e] at h; cases h
  | some z => rw [e] at h; exact ⟨z, rfl, (Option.some.inj h).symm⟩
/-- the loop over an iteration J, from the slots σ and the heap H -/
def forJ (J : It) (g : TG) (tb : TS) (n : St → Hp → Prop) (rt : VK) (σ : St) (H : Hp) : Prop :=
  ∃ W : Nat → Nat → St → Hp → Prop, (∃ m, W 0 m σ H) ∧ ∀ i m σ H, W i m σ H →
    (J.stop i H ∧ n σ H) ∨ (J.go i H ∧ ∃ N : St → Hp → Prop, (∀ σ' H', N σ' H' → ∃ m', m' < m ∧ W (i + 1) m' σ' H') ∧ ∀ x H', J.yld i H x H' → g x σ H' fun σ2 H2 => tb ⟨N, rt, n, N⟩ σ2 H2)
def forLK (K : PySem.W.Frag) (g : TG) (tb : TS) (n : St → Hp → Prop) (rt : VK) (σ : St) (x : V) (H : Hp) : Prop := ∃ a, x = .ref a ∧ (∃ xs, SqL K H a xs) ∧ forJ (Itl K a) g tb n rt σ H
def forTK (K : PySem.W.Frag) (g : TG) (tb : TS) (n : St → Hp → Prop) (rt : VK) (σ : St) (x : V) (H : Hp) : Prop := ∃ a, x = .ref a ∧ (∃ xs, SqT K H a xs) ∧ forJ (Itt K a) g tb n rt σ H
def forR1K (g : TG) (tb : TS) (n : St → Hp → Prop) (rt : VK) (σ : St) (vs : List V) (H : Hp) : Prop := ∃ j : Int, vs = [.int j] ∧ -(2 ^ 62) ≤ j ∧ j < 2 ^ 62 ∧ forJ (Itr 0 j.toNat) g tb n rt σ H
def forR2K (g : TG) (tb : TS) (n : St → Hp → Prop) (rt : VK) (σ : St) (vs : List V) (H : Hp) : Prop :=
  ∃ i j : Int, vs = [.int i, .int j] ∧ (-(2 ^ 62) ≤ i ∧ i < 2 ^ 62 ∧ -(2 ^ 62) ≤ j ∧ j < 2 ^ 62) ∧ forJ (Itr i (j - i).toNat) g tb n rt σ H
section
variable {K : PySem.W.Frag} {σ σ' : St} {H H' : Hp} {Q : VK} {te te0 : TE} {ta : TA} {tb : TS} {g : TG} {m : Nat} {n : St → Hp → Prop} {rt : VK} {bk ct : St → Hp → Prop} {a : Addr} {xs : List V} {i j : Int}
theorem g_forL (q : te σ H fun x H1 => forLK K g tb n rt σ x H1) : tFor (iList K te) g tb ⟨n, rt, bk, ct⟩ σ H := q
theorem g_forT (q : te σ H fun x H1 => forTK K g tb n rt σ x H1) : tFor (iTup K te) g tb ⟨n, rt, bk, ct⟩ σ H := q
theorem g_forR1 (q : ta σ H fun vs H1 => forR1K g tb n rt σ vs H1) : tFor (iRng1 ta) g tb ⟨n, rt, bk, ct⟩ σ H := q
theorem g_forR2 (q : ta σ H fun vs H1 => forR2K g tb n rt σ vs H1) : tFor (iRng2 ta) g tb ⟨n, rt, bk, ct⟩ σ H := q
theorem for_L (hs : SqL K H a xs) (Pv : Nat → St → Hp → Prop) (h0 : Pv 0 σ H) (hl : ∀ i σ H, Pv i σ H → SqL K H a xs)
    (ht : ∀ i x σ H, xs[i]? = some x → Pv i σ H → g x σ H fun σ2 H2 => tb ⟨Pv (i + 1), rt, n, Pv (i + 1)⟩ σ2 H2) (hd : ∀ σ H, Pv xs.length σ H → n σ H) : forLK K g tb n rt σ (.ref a) H :=
  ⟨a, rfl, ⟨xs, hs⟩, for_list (D := ⟨n, rt, fun _ _ => False, fun _ _ => False⟩) Pv h0 (fun i σ H _ p => hl i σ H p) ht hd⟩
theorem for_T (hs : SqT K H a xs) (Pv : Nat → St → Hp → Prop) (h0 : Pv 0 σ H) (hl : ∀ i σ H, Pv i σ H → SqT K H a xs)
    (ht : ∀ i x σ H, xs[i]? = some x → Pv i σ H → g x σ H fun σ2 H2 => tb ⟨Pv (i + 1), rt, n, Pv (i + 1)⟩ σ2 H2) (hd : ∀ σ H, Pv xs.length σ H → n σ H) : forTK K g tb n rt σ (.ref a) H :=
  ⟨a, rfl, ⟨xs, hs⟩, for_tup (D := ⟨n, rt, fun _ _ => False, fun _ _ => False⟩) Pv h0 (fun i σ H _ p => hl i σ H p) ht hd⟩
/-- over ints, to one name -/
theorem for_LI {ns : List Int} (hs : SqL K H a (ns.map V.int)) (Pv : Nat → St → Hp → Prop) (h0 : Pv 0 σ H) (hl : ∀ i σ H, Pv i σ H → SqL K H a (ns.map V.int))
    (ht : ∀ i z σ H, ns[i]? = some z → Pv i σ H → asgn m (fun σ2 H2 => tb ⟨Pv (i + 1), rt, n, Pv (i + 1)⟩ σ2 H2) (.int z) σ H) (hd : ∀ σ H, Pv ns.length σ H → n σ H) : forLK K (gName m) tb n rt σ (.ref a) H := by
  refine for_L hs Pv h0 hl (fun i x σ H hx p => ?_) fun σ H p => hd σ H (by rw [List.length_map] at p; exact p)
  obtain ⟨z, hz, rfl⟩ := map_at hx
  exact ht i z σ H hz p
theorem for_TI {ns : List Int} (hs : SqT K H a (ns.map V.int)) (Pv : Nat → St → Hp → Prop) (h0 : Pv 0 σ H) (hl : ∀ i σ H, Pv i σ H → SqT K H a (ns.map V.int))
    (ht : ∀ i z σ H, ns[i]? = some z → Pv i σ H → asgn m (fun σ2 H2 => tb ⟨Pv (i + 1), rt, n, Pv (i + 1)⟩ σ2 H2) (.int z) σ H) (hd : ∀ σ H, Pv ns.length σ H → n σ H) : forTK K (gName m) tb n rt σ (.ref a) H := by
  refine for_T hs Pv h0 hl (fun i x σ H hx p => ?_) fun σ H p => hd σ H (by rw [List.length_map] at p; exact p)
  obtain ⟨z, hz, rfl⟩ := map_at hx
  exact ht i z σ H hz p
theorem for_R1 {k : Nat} (hk : j = (k : Int)) (hb : k < 2 ^ 62) (Pv : Nat → St → Hp → Prop) (h0 : Pv 0 σ H)
    (ht : ∀ (i : Nat) σ H, i < k → Pv i σ H → asgn m (fun σ2 H2 => tb ⟨Pv (i + 1), rt, n, Pv (i + 1)⟩ σ2 H2) (.int (i : Int)) σ H) (hd : ∀ σ H, Pv k σ H → n σ H) : forR1K (gName m) tb n rt σ [.int j] H := by
  subst hk
  refine ⟨k, rfl, by omega, by omega, for_range (D := ⟨n, rt, fun _ _ => False, fun _ _ => False⟩) Pv h0 (fun i σ H hi p => ?_) fun σ H p => hd σ H (by simpa using p)⟩
  have e : (0 : Int) + (i : Int) = (i : Int) := by omega
  rw [e]
  exact ht i σ H (by simpa using hi) p
theorem for_R2 {k : Nat} (hk : (j - i).toNat = k) (hb : -(2 ^ 62) ≤ i ∧ i < 2 ^ 62 ∧ -(2 ^ 62) ≤ j ∧ j < 2 ^ 62) (Pv : Nat → St → Hp → Prop) (h0 : Pv 0 σ H)
    (ht : ∀ (l : Nat) σ H, l < k → Pv l σ H → asgn m (fun σ2 H2 => tb ⟨Pv (l + 1), rt, n, Pv (l + 1)⟩ σ2 H2) (.int (i + (l : Int))) σ H) (hd : ∀ σ H, Pv k σ H → n σ H) : forR2K (gName m) tb n rt σ [.int i, .int j] H := by
  subst hk
  exact ⟨i, j, rfl, hb, for_range (D := ⟨n, rt, fun _ _ => False, fun _ _ => False⟩) Pv h0 (fun l σ H hi p => ht l σ H hi p) fun σ H p => hd σ H p⟩
/-! ### comprehensions -/
def lcJ (J : It) (g : TG) (tt : TT) (te : TE) (vs : List Nat) (σ : St) (H1 : Hp) (Q : VK) : Prop :=
  ∀ D, H1 D = none → ∃ W : Nat → Nat → Hp → Prop, (∃ m, W 0 m (upd H1 D (.lst []))) ∧ ∀ i m H, W i m H →
  (J.stop i H ∧ Q (.ref D) H) ∨ (J.go i H ∧ ∃ Nx : Hp → Prop, (∀ H', Nx H' → ∃ m', m' < m ∧ W (i + 1) m' H') ∧ ∀ x H', J.yld i H x H' → g x (wipe σ vs) H' fun σ2 H2 => wipe σ2 vs = wipe σ vs ∧ tt σ2 H2 fun b H3 =>
    if b = true then te σ2 H3 fun y H4 => ∃ acc, H4 D = some (.lst acc) ∧ acc.length < sizeLine ∧ Nx (upd H4 D (.lst (acc ++ [y]))) else Nx H3)
def lcLK (K : PySem.W.Frag) (g : TG) (tt : TT) (te : TE) (vs : List Nat) (σ : St) (x : V) (H : Hp) (Q : VK) : Prop := ∃ a, x = .ref a ∧ (∃ xs, SqL K H a xs) ∧ lcJ (Itl K a) g tt te vs σ H Q
def lcTK (K : PySem.W.Frag) (g : TG) (tt : TT) (te : TE) (vs : List Nat) (σ : St) (x : V) (H : Hp) (Q : VK) : Prop := ∃ a, x = .ref a ∧ (∃ xs, SqT K H a xs) ∧ lcJ (Itt K a) g tt te vs σ H Q
def lcR1K (g : TG) (tt : TT) (te : TE) (vs : List Nat) (σ : St) (us : List V) (H : Hp) (Q : VK) : Prop := ∃ j : Int, us = [.int j] ∧ -(2 ^ 62) ≤ j ∧ j < 2 ^ 62 ∧ lcJ (Itr 0 j.toNat) g tt te vs σ H Q
theorem g_lcL {tt : TT} {vs : List Nat} (q : te0 σ H fun x H1 => lcLK K g tt te vs σ x H1 Q) : tLc (iList K te0) g tt te vs σ H Q := q
theorem g_lcT {tt : TT} {vs : List Nat} (q : te0 σ H fun x H1 => lcTK K g tt te vs σ x H1 Q) : tLc (iTup K te0) g tt te vs σ H Q := q
theorem g_lcR1 {tt : TT} {vs : List Nat} (q : ta σ H fun us H1 => lcR1K g tt te vs σ us H1 Q) : tLc (iRng1 ta) g tt te vs σ H Q := q
/-- each item's value y: f x. What the elements lay down besides stands behind -/
def eachK (te : TE) (m : Nat) (σ : St) (H1 : Hp) (D : Addr) (x y : V) : Prop :=
  ∀ H2 Q, Same H1 H2 → (∀ H3, Same H2 H3 → Q y H3) → asgn m (fun σ2 H2 => te σ2 H2 Q) x (σ.set m none) H2
theorem wipe1 (x : Option V) : wipe (((wipe σ [m])).set m x) [m] = wipe σ [m] := by
  show ((((σ.set m none)).set m x).set m none) = σ.set m none
  rw [List.set_set, List.set_set]
theorem lc_each (xs : List V) (f : V → V) (J : It) (hg : ∀ i H, i < xs.length → Same H' H → J.go i H) (hy : ∀ i H x H2, i < xs.length → Same H' H → J.yld i H x H2 → H2 = H ∧ xs[i]? = some x) (hs : ∀ H, Same H' H → J.stop xs.length H) (hl : xs.length ≤ 1000000)
    (he : ∀ x, x ∈ xs → ∀ D, eachK te m σ H' D x (f x)) (hq : ∀ D H3, H' D = none → Same H' H3 → H3 D = some (.lst (xs.map f)) → Q (.ref D) H3) : lcJ J (gName m) tYes te [m] σ H' Q := by
  intro D hD
  refine ⟨fun i k H => k = xs.length - i ∧ i ≤ xs.length ∧ Same H' H ∧ H D = some (.lst ((xs.take i).map f)), ⟨xs.length, rfl, Nat.zero_le _, same_new (Same.refl _) hD, upd_same⟩, ?_⟩
  rintro i k H ⟨rfl, hi, s, e⟩
  by_cases hlt : i < xs.length
  · refine .inr ⟨hg i H hlt s, fun H2 => Same H' H2 ∧ H2 D = some (.lst ((xs.take (i + 1)).map f)), fun H2 p => ⟨xs.length - (i + 1), by omega, rfl, hlt, p⟩, fun x H2 hx => ?_⟩
    obtain ⟨rfl, ex⟩ := hy i H x H2 hlt s hx
    have hm : x ∈ xs := List.mem_of_getElem? ex
    refine ⟨wipe1 _, ?_⟩
    have yes : ∀ {A B : Prop}, A → if true = true then A else B := fun h => iteT h
    refine yes (B := ((fun H2 => Same H' H2 ∧ H2 D = some (HO.lst ((xs.take (i + 1)).map f))) H2)) ?_
    refine he x hm D H2 _ s fun H3 s3 => ⟨(xs.take i).map f, s3 _ _ e, ?_, same_mut (Same.trans s s3) hD, ?_⟩
    · rw [List.length_map, List.length_take]
      exact Nat.lt_of_le_of_lt (Nat.le_trans (Nat.min_le_right _ _) hl) (by decide)
    · rw [upd_same, List.take_add_one, ex, List.map_append]
      rfl
  · have e1 : i = xs.length := by omega
    subst e1
    rw [List.take_length] at e
    exact .inl ⟨hs H s, hq D H hD s e⟩
theorem lc_L (hs : SqL K H a xs) (f : V → V) (hl : xs.length ≤ 1000000) (he : ∀ x, x ∈ xs → ∀ D, eachK te m σ H D x (f x)) (hq : ∀ D H3, H D = none → Same H H3 → H3 D = some (.lst (xs.map f)) → Q (.ref D) H3) :
    lcLK K (gName m) tYes te [m] σ (.ref a) H Q :=
  ⟨a, rfl, ⟨xs, hs⟩, lc_each xs f (Itl K a) (fun i H hi s => ⟨xs, xs[i], s.seq hs, List.getElem?_eq_getElem hi⟩) (fun i H x H2 _ s y => ⟨y.1, y.2 xs (s.seq hs)⟩) (fun H s => ⟨xs, s.seq hs, Nat.le_refl _⟩) hl he hq⟩
theorem lc_T (hs : SqT K H a xs) (f : V → V) (hl : xs.length ≤ 1000000) (he : ∀ x, x ∈ xs → ∀ D, eachK te m σ H D x (f x)) (hq : ∀ D H3, H D = none → Same H H3 → H3 D = some (.lst (xs.map f)) → Q (.ref D) H3) :
    lcTK K (gName m) tYes te [m] σ (.ref a) H Q :=
  ⟨a, rfl, ⟨xs, hs⟩, lc_each xs f (Itt K a) (fun i H hi s => ⟨xs, xs[i], Fo.Same.tup s hs, List.getElem?_eq_getElem hi⟩) (fun i H x H2 _ s y => ⟨y.1, y.2 xs (Fo.Same.tup s hs)⟩) (fun H s => ⟨xs, Fo.Same.tup s hs, Nat.le_refl _⟩) hl he hq⟩
/-- ints to anything -/
theorem lc_LI {ns : List Int} (hs : SqL K H a (ns.map V.int)) (f : Int → V) (hl : ns.length ≤ 1000000) (he : ∀ z, z ∈ ns → ∀ D, eachK te m σ H D (.int z) (f z)) (hq : ∀ D H3, H D = none → Same H H3 → H3 D = some (.lst (ns.map f)) → Q (.ref D) H3) :
    lcLK K (gName m) tYes te [m] σ (.ref a) H Q := by
  have key : (ns.map V.int).map (fun v => match v with | .int z => f z | _ => .non) = ns.map f := by rw [List.map_map]; rfl
  refine lc_L hs (fun v => match v with | .int z => f z | _ => .non) (by rw [List.length_map]; exact hl) (fun x hx D => ?_) (by rw [key]; exact hq)
  obtain ⟨z, hz, rfl⟩ := List.mem_map.mp hx
  exact he z hz D
theorem lc_TI {ns : List Int} (hs : SqT K H a (ns.map V.int)) (f : Int → V) (hl : ns.length ≤ 1000000) (he : ∀ z, z ∈ ns → ∀ D, eachK te m σ H D (.int z) (f z)) (hq : ∀ D H3, H D = none → Same H H3 → H3 D = some (.lst (ns.map f)) → Q (.ref D) H3) :
    lcTK K (gName m) tYes te [m] σ (.ref a) H Q := by
  have key : (ns.map V.int).map (fun v => match v with | .int z => f z | _ => .non) = ns.map f := by rw [List.map_map]; rfl
  refine lc_T hs (fun v => match v with | .int z => f z | _ => .non) (by rw [List.length_map]; exact hl) (fun x hx D => ?_) (by rw [key]; exact hq)
  obtain ⟨z, hz, rfl⟩ := List.mem_map.mp hx
  exact he z hz D
theorem lc_R1 {k : Nat} (hk : j = (k : Int)) (f : Nat → V) (hl : k ≤ 1000000) (he : ∀ i, i < k → ∀ D, eachK te m σ H D (.int (i : Int)) (f i)) (hq : ∀ D H3, H D = none → Same H H3 → H3 D = some (.lst ((List.range k).map f)) → Q (.ref D) H3) :
    lcR1K (gName m) tYes te [m] σ [.int j] H Q := by
  subst hk
  have key : ((List.range k).map fun (i : Nat) => V.int (i : Int)).map (fun v => match v with | .int z => f z.toNat | _ => .non) = (List.range k).map f := by rw [List.map_map]; rfl
  have len : ((List.range k).map fun (i : Nat) => V.int (i : Int)).length = k := by simp
  refine ⟨k, rfl, by omega, by omega, lc_each ((List.range k).map fun (i : Nat) => V.int (i : Int)) (fun v => match v with | .int z => f z.toNat | _ => .non) (Itr 0 (k : Int).toNat) (fun i H hi s => ?_) (fun i H x H2 hi s y => ?_) (fun H s => ?_) (by rw [len]; exact hl) (fun x hx D => ?_) (by rw [key]; exact hq)⟩
  · rw [len] at hi
    show i < (k : Int).toNat
    simpa using hi
  · obtain ⟨rfl, rfl⟩ := y
    rw [len] at hi
    refine ⟨rfl, ?_⟩
    rw [List.getElem?_map, List.getElem?_range hi]
    show some (V.int (i : Int)) = some (V.int (0 + (i : Int)))
    rw [Int.zero_add]
  · rw [len]
    show (k : Int).toNat ≤ k
    simp
  · obtain ⟨i, hi, rfl⟩ := List.mem_map.mp hx
    exact he i (by simpa using hi) D
end
/-! Fo, data as a whole: == of lists, tuples, texts and ints at any depth below 60, no truths within. -/
mutual
def clean : PyData → Bool
  | .none => true
  | .bool _ => false
  | .int _ => true
  | .str _ => true
  | .list xs => cleanAll xs
  | .tuple xs => cleanAll xs
  | .dict _ => false
def cleanAll : List PyData → Bool
  | [] => true
  | x :: xs => clean x && cleanAll xs
end
mutual
theorem eqv_is : ∀ d e : PyData, clean d = true → clean e = true → (PyData.eqv d e = true ↔ d = e)
  | .none, e, h, h' => by cases e <;> simp [PyData.eqv]
  | .bool b, e, h, h' => by simp [clean] at h
  | .int i, e, h, h' => by cases e <;> simp [PyData.eqv, clean] at h' ⊢
  | .str z, e, h, h' => by cases e <;> simp [PyData.eqv]
  | .list xs, e, h, h' => by
    cases e with
    | list ys =>
      simp only [clean] at h h'
      simp only [PyData.eqv, PyData.list.injEq]
      exact eqvAll_is xs ys h h'
    | _ => simp [PyData.eqv]
  | .tuple xs, e, h, h' => by
    cases e with
    | tuple ys =>
      simp only [clean] at h h'
      simp only [PyData.eqv, PyData.tuple.injEq]
      exact eqvAll_is xs ys h h'
    | _ => simp [PyData.eqv]
  | .dict _, e, h, h' => by simp [clean] at h
theorem eqvAll_is : ∀ xs ys : List PyData, cleanAll xs = true → cleanAll ys = true → (PyData.eqvAll xs ys = true ↔ xs = ys)
  | [], [], _, _ => by simp [PyData.eqvAll]
  | [], _ :: _, _, _ => by simp [PyData.eqvAll]
  | _ :: _, [], _, _ => by simp [PyData.eqvAll]
  | x :: xs, y :: ys, h, h' => by
    simp only [cleanAll, Bool.and_eq_true] at h h'
    simp only [PyData.eqvAll, Bool.and_eq_true, List.cons.injEq]
    rw [eqv_is x y h.1 h'.1, eqvAll_is xs ys h.2 h'.2]
end
/-- data that == compares as they stand -/
structure Okd (n : Nat) (d : PyData) : Prop where
  lay : d.canLay0 = true
  cl : clean d = true
  dp : d.depth ≤ n
theorem okd_non {n : Nat} : Okd n .none := ⟨rfl, by simp [clean], by simp [PyData.depth]⟩
theorem okd_int {n : Nat} {i : Int} : Okd n (.int i) := ⟨rfl, by simp [clean], by simp [PyData.depth]⟩
theorem okd_str {n : Nat} {z : Str} (h : PyData.strOk z = true) : Okd n (.str z) := ⟨by simpa [PyData.canLay0] using h, by simp [clean], by simp [PyData.depth]⟩
theorem okd_all {n : Nat} : ∀ {ds : List PyData}, (∀ d ∈ ds, Okd n d) → PyData.canLayAll0 ds = true ∧ cleanAll ds = true ∧ PyData.depthAll ds ≤ n
  | [], _ => by simp [PyData.canLayAll0, cleanAll, PyData.depthAll]
  | d :: ds, h => by
    obtain ⟨a, b, c⟩ := okd_all (ds := ds) fun e he => h e (List.mem_cons_of_mem _ he)
    have k := h d List.mem_cons_self
    refine ⟨?_, ?_, ?_⟩
    · simp [PyData.canLayAll0, k.lay, a]
    · simp [cleanAll, k.cl, b]
    · simp only [PyData.depthAll]
      have := k.dp
      omega
theorem okd_lst {n : Nat} {ds : List PyData} (h : ∀ d ∈ ds, Okd n d) : Okd (n + 1) (.list ds) := by
  obtain ⟨a, b, c⟩ := okd_all h
  exact ⟨by simpa [PyData.canLay0] using a, by simpa [clean] using b, by simp only [PyData.depth]; omega⟩
theorem okd_tup {n : Nat} {ds : List PyData} (h : ∀ d ∈ ds, Okd n d) : Okd (n + 1) (.tuple ds) := by
  obtain ⟨a, b, c⟩ := okd_all h
  exact ⟨by simpa [PyData.canLay0] using a, by simpa [clean] using b, by simp only [PyData.depth]; omega⟩
theorem okd_ints {n : Nat} {ns : List Int} : ∀ d ∈ ns.map PyData.int, Okd n d := fun d h => by
  obtain ⟨i, _, rfl⟩ := List.mem_map.mp h
  exact okd_int
theorem Okd.shaped {n : Nat} {d : PyData} (h : Okd n d) (hn : n ≤ 64) : SeqAt.shaped d = true := by
  unfold SeqAt.shaped
  rw [h.lay, Bool.true_and]
  exact decide_eq_true (Nat.le_trans h.dp hn)
section
variable {K : PySem.W.Frag} {H : Hp} {Q : VK} {x y : V} {d e : PyData} {n m : Nat} {b : Bool} {p q : Addr}
theorem g_sameD (hx : Dp K H x d) (hy : Dp K H y e) (od : Okd n d) (oe : Okd m e) (hn : n ≤ 64) (hm : m ≤ 64) (hb : b = true ↔ d = e) (k : Q (.bl b) H) : rSame K x y H Q := by
  refine .inr ⟨d, e, hx, hy, od.shaped hn, oe.shaped hm, ?_⟩
  have z : PyData.eqv d e = b := by
    rw [Bool.eq_iff_iff, eqv_is d e od.cl oe.cl, hb]
  rw [z]
  exact k
theorem g_diffD (hx : Dp K H x d) (hy : Dp K H y e) (od : Okd n d) (oe : Okd m e) (hn : n ≤ 64) (hm : m ≤ 64) (hb : b = true ↔ d = e) (k : Q (.bl (!b)) H) : rDiff K x y H Q := by
  refine .inr ⟨d, e, hx, hy, od.shaped hn, oe.shaped hm, ?_⟩
  have z : PyData.eqv d e = b := by
    rw [Bool.eq_iff_iff, eqv_is d e od.cl oe.cl, hb]
  rw [z]
  exact k
theorem dpAll_ints : ∀ {ns : List Int}, DpAll K H (ns.map V.int) (ns.map PyData.int)
  | [] => .nil
  | i :: ns => .cons (.int i) (dpAll_ints (ns := ns))
theorem map_int_inj {ns ms : List Int} : ns.map PyData.int = ms.map PyData.int ↔ ns = ms := by
  constructor
  · intro h
    induction ns generalizing ms with
    | nil => cases ms with
      | nil => rfl
      | cons => cases h
    | cons i ns ih => cases ms with
      | nil => cases h
      | cons j ms =>
        simp only [List.map_cons, List.cons.injEq, PyData.int.injEq] at h
        rw [h.1, ih h.2]
  · intro h; rw [h]
theorem g_sameLI {ns ms : List Int} (hx : SqL K H p (ns.map V.int)) (hy : SqL K H q (ms.map V.int)) (k : Q (.bl (decide (ns = ms))) H) : rSame K (.ref p) (.ref q) H Q :=
  g_sameD (n := 1) (m := 1) (.lst hx dpAll_ints) (.lst hy dpAll_ints) (okd_lst okd_ints) (okd_lst okd_ints) (by decide) (by decide) (by rw [decide_eq_true_iff, PyData.list.injEq, map_int_inj]) k
theorem g_diffLI {ns ms : List Int} (hx : SqL K H p (ns.map V.int)) (hy : SqL K H q (ms.map V.int)) (k : Q (.bl (!decide (ns = ms))) H) : rDiff K (.ref p) (.ref q) H Q :=
  g_diffD (n := 1) (m := 1) (.lst hx dpAll_ints) (.lst hy dpAll_ints) (okd_lst okd_ints) (okd_lst okd_ints) (by decide) (by decide) (by rw [decide_eq_true_iff, PyData.list.injEq, map_int_inj]) k
theorem g_sameTI {ns ms : List Int} (hx : SqT K H p (ns.map V.int)) (hy : SqT K H q (ms.map V.int)) (k : Q (.bl (decide (ns = ms))) H) : rSame K (.ref p) (.ref q) H Q :=
  g_sameD (n := 1) (m := 1) (.tup hx dpAll_ints) (.tup hy dpAll_ints) (okd_tup okd_ints) (okd_tup okd_ints) (by decide) (by decide) (by rw [decide_eq_true_iff, PyData.tuple.injEq, map_int_inj]) k
theorem g_diffTI {ns ms : List Int} (hx : SqT K H p (ns.map V.int)) (hy : SqT K H q (ms.map V.int)) (k : Q (.bl (!decide (ns = ms))) H) : rDiff K (.ref p) (.ref q) H Q :=
  g_diffD (n := 1) (m := 1) (.tup hx dpAll_ints) (.tup hy dpAll_ints) (okd_tup okd_ints) (okd_tup okd_ints) (by decide) (by decide) (by rw [decide_eq_true_iff, PyData.tuple.injEq, map_int_inj]) k
end
/-! ### slices of lists of anything -/
def cutL {α : Type} (xs : List α) (lo hi : Option Int) : List α := (xs.drop (HT.sIx xs.length 0 lo)).take (HT.sIx xs.length xs.length hi - HT.sIx xs.length 0 lo)
theorem cutV_map {α : Type} (f : α → V) (xs : List α) (lo hi : Option Int) : cutV (xs.map f) lo hi = (cutL xs lo hi).map f := by
  unfold cutV cutL
  rw [List.length_map, ← List.map_drop, ← List.map_take]
theorem cutL_len {α : Type} (xs : List α) (lo hi : Option Int) : (cutL xs lo hi).length ≤ xs.length := by
  unfold cutL
  rw [List.length_take, List.length_drop]
  omega
theorem cutL_sub {α : Type} (xs : List α) (lo hi : Option Int) {x : α} (h : x ∈ cutL xs lo hi) : x ∈ xs := List.mem_of_mem_drop (List.mem_of_mem_take h)
theorem cutL_to {α : Type} (xs : List α) (k : Nat) : cutL xs none (some (k : Int)) = xs.take k := by
  unfold cutL
  rw [HT.sIx_none, HT.sIx_nat]
  show List.take (min k xs.length - 0) xs = xs.take k
  rw [Nat.sub_zero, List.take_eq_take_iff]
  omega
theorem cutL_from {α : Type} (xs : List α) (k : Nat) : cutL xs (some (k : Int)) none = xs.drop k := by
  unfold cutL
  rw [HT.sIx_none, HT.sIx_nat]
  by_cases h : k ≤ xs.length
  · rw [Nat.min_eq_left h, List.take_of_length_le]
    rw [List.length_drop]
    omega
  · have e : min k xs.length = xs.length := by omega
    rw [e, List.drop_of_length_le (Nat.le_refl _), List.drop_of_length_le (by omega)]
    simp
theorem cutL_both {α : Type} (xs : List α) (i j : Nat) : cutL xs (some (i : Int)) (some (j : Int)) = (xs.drop i).take (j - i) := by
  unfold cutL
  rw [HT.sIx_nat, HT.sIx_nat]
  by_cases h : i ≤ xs.length
  · rw [Nat.min_eq_left h, List.take_eq_take_iff, List.length_drop]
    omega
  · have e : min i xs.length = xs.length := by omega
    rw [e, List.drop_of_length_le (Nat.le_refl _), List.drop_of_length_le (by omega)]
    simp
theorem cutL_butlast {α : Type} (xs : List α) : cutL xs none (some (-1)) = xs.dropLast := by
  unfold cutL
  rw [HT.sIx_none]
  show List.take (HT.sIx xs.length xs.length (some (-1)) - 0) xs = _
  rw [Nat.sub_zero, List.dropLast_eq_take]
  congr 1
  show (if (-1 : Int) < 0 then ((-1 : Int) + (xs.length : Int)).toNat else min (-1 : Int).toNat xs.length) = xs.length - 1
  rw [if_pos (by decide)]
  omega
theorem g_sameB {K : PySem.W.Frag} {H : Hp} {Q : VK} {p r : Addr} {bs cs : List Bool} {b : Bool} (hx : SqL K H p (bs.map V.bl)) (hy : SqL K H r (cs.map V.bl)) (s1 : SeqAt.shaped (.list (bs.map PyData.bool)) = true) (s2 : SeqAt.shaped (.list (cs.map PyData.bool)) = true)
    (h : PyData.eqv (.list (bs.map PyData.bool)) (.list (cs.map PyData.bool)) = b) (q : Q (.bl b) H) : rSame K (.ref p) (.ref r) H Q := by
  have dp : ∀ bs : List Bool, DpAll K H (bs.map V.bl) (bs.map PyData.bool) := fun bs => by
    induction bs with
    | nil => exact .nil
    | cons b bs ih => exact .cons (.bl b) ih
  exact .inr ⟨_, _, .lst hx (dp bs), .lst hy (dp cs), s1, s2, by rw [h]; exact q⟩
theorem g_diffB {K : PySem.W.Frag} {H : Hp} {Q : VK} {p r : Addr} {bs cs : List Bool} {b : Bool} (hx : SqL K H p (bs.map V.bl)) (hy : SqL K H r (cs.map V.bl)) (s1 : SeqAt.shaped (.list (bs.map PyData.bool)) = true) (s2 : SeqAt.shaped (.list (cs.map PyData.bool)) = true)
    (h : PyData.eqv (.list (bs.map PyData.bool)) (.list (cs.map PyData.bool)) = b) (q : Q (.bl (!b)) H) : rDiff K (.ref p) (.ref r) H Q := by
  have dp : ∀ bs : List Bool, DpAll K H (bs.map V.bl) (bs.map PyData.bool) := fun bs => by
    induction bs with
    | nil => exact .nil
    | cons b bs ih => exact .cons (.bl b) ih
  exact .inr ⟨_, _, .lst hx (dp bs), .lst hy (dp cs), s1, s2, by rw [h]; exact q⟩
/-! Fo, objects: fields of own classes, calls of methods, what stays when some things change. -/
class HasCls (K : PySem.W.Frag) (C : Str) : Prop where h : Cls K (He.ga K C)
class HasNo (K : PySem.W.Frag) (C f : Str) : Prop where h : NoAttr K (He.ga K C) f
/-- all but what M names stays; nothing goes -/
structure SameX (M : Addr → Prop) (H H1 : Hp) : Prop where
  kp : ∀ b o, ¬ M b → H b = some o → H1 b = some o
  dm : ∀ b, H1 b = none → H b = none
theorem upd_none {H : Hp} {a b : Addr} {o : HO} (h : upd H a o b = none) : H b = none := by
  by_cases e : b = a
  · rw [e, upd_same] at h; cases h
  · rw [upd_ne e] at h; exact h
theorem upd_upd {H : Hp} {a : Addr} {o u : HO} : upd (upd H a o) a u = upd H a u := by
  funext b
  by_cases e : b = a
  · rw [e, upd_same, upd_same]
  · rw [upd_ne e, upd_ne e, upd_ne e]
theorem SameX.refl {M : Addr → Prop} (H : Hp) : SameX M H H := ⟨fun _ _ _ h => h, fun _ h => h⟩
theorem SameX.of {M : Addr → Prop} {H H1 : Hp} (s : Same H H1) : SameX M H H1 := ⟨fun b o _ h => s b o h, fun _ h => s.free h⟩
theorem SameX.trans {M : Addr → Prop} {H H1 H2 : Hp} (s : SameX M H H1) (t : SameX M H1 H2) : SameX M H H2 := ⟨fun b o n h => t.kp b o n (s.kp b o n h), fun b h => s.dm b (t.dm b h)⟩
theorem SameX.mono {M N : Addr → Prop} {H H1 : Hp} (s : SameX M H H1) (h : ∀ b, M b → N b) : SameX N H H1 := ⟨fun b o n e => s.kp b o (fun m => n (h b m)) e, s.dm⟩
/-- what M names besides was not there -/
theorem SameX.mono' {M N : Addr → Prop} {H H1 : Hp} (s : SameX M H H1) (h : ∀ b, M b → H b ≠ none → N b) : SameX N H H1 := ⟨fun b o n e => s.kp b o (fun m => n (h b m (by rw [e]; exact fun z => nomatch z))) e, s.dm⟩
theorem SameX.mut {M : Addr → Prop} {H H1 : Hp} {a : Addr} {o : HO} (s : SameX M H H1) (h : M a) : SameX M H (upd H1 a o) :=
  ⟨fun b u n e => by rw [upd_ne (fun z : b = a => n (by rw [z]; exact h))]; exact s.kp b u n e, fun b e => s.dm b (upd_none e)⟩
theorem SameX.new {M : Addr → Prop} {H H1 : Hp} {a : Addr} {o : HO} (s : SameX M H H1) (h : H1 a = none) : SameX M H (upd H1 a o) :=
  ⟨fun b u n e => lk_new (s.kp b u n e) h, fun b e => s.dm b (upd_none e)⟩
theorem SameX.newmut {M : Addr → Prop} {H H1 : Hp} {a : Addr} {o : HO} (s : SameX M H H1) (h : H a = none) : SameX M H (upd H1 a o) :=
  ⟨fun b u n e => lk_mut (ne_of_none e h) (s.kp b u n e), fun b e => s.dm b (upd_none e)⟩
theorem SameX.same {H H1 : Hp} (s : SameX (fun _ => False) H H1) : Same H H1 := fun b o h => s.kp b o (fun z => z) h
theorem SameX.lk {M : Addr → Prop} {H H1 : Hp} {a : Addr} {o : HO} (s : SameX M H H1) (n : ¬ M a) (h : H a = some o) : H1 a = some o := s.kp a o n h
theorem SameX.seq {K : PySem.W.Frag} {M : Addr → Prop} {H H1 : Hp} {a : Addr} {xs : List V} (s : SameX M H H1) (n : ¬ M a) (h : SqL K H a xs) : SqL K H1 a xs := by
  rcases h with (h | ⟨v, h⟩) | h
  · exact .inl (.inl (s.kp _ _ n h))
  · exact .inl (.inr ⟨v, s.kp _ _ n h⟩)
  · exact .inr h
theorem SameX.tup {K : PySem.W.Frag} {M : Addr → Prop} {H H1 : Hp} {a : Addr} {xs : List V} (s : SameX M H H1) (n : ¬ M a) (h : SqT K H a xs) : SqT K H1 a xs := by
  rcases h with (h | ⟨v, h⟩) | h
  · exact .inl (.inl (s.kp _ _ n h))
  · exact .inl (.inr ⟨v, s.kp _ _ n h⟩)
  · exact .inr h
/-- what is changed was not there at first -/
theorem SameX.back {M : Addr → Prop} {H H1 H2 : Hp} (s0 : Same H H1) (s : SameX M H1 H2) (h : ∀ b, M b → H b = none) : Same H H2 := fun b o e => s.kp b o (fun m => by rw [h b m] at e; cases e) (s0 b o e)
theorem SameX.back1 {a : Addr} {H H1 H2 : Hp} (s0 : Same H H1) (s : SameX (· = a) H1 H2) (h : H a = none) : Same H H2 := s.back s0 fun b m => by rw [m]; exact h
/-- another kind of thing stands there -/
theorem ne_kind {H : Hp} {a b : Addr} {o u : HO} (h : H a = some o) (k : H b = some u) (d : o ≠ u) : a ≠ b := fun e => d (Option.some.inj (by rw [← h, ← k, e]))
/-! ### fields -/
theorem putF_nil {f : Str} {v : V} : putF f v [] = [(f, v)] := rfl
theorem putF_hit {f : Str} {v u : V} {r : List (Str × V)} : putF f v ((f, u) :: r) = (f, v) :: r := by simp [putF]
theorem putF_far {f g : Str} {v u : V} {r r' : List (Str × V)} (h : g ≠ f) (k : putF f v r = r') : putF f v ((g, u) :: r) = (g, u) :: r' := by
  subst k
  show (if g = f then _ else _) = _
  rw [if_neg h]
def mthK (m : Str) (ms : Addr → Sp → Prop) (x : V) (H : Hp) (A : Sp → Prop) : Prop := ∃ a C dx fs sp, x = .ref a ∧ H a = some (.ins C dx fs) ∧ ms C sp ∧ fs.lookup m = none ∧ A sp
def augK (K : PySem.W.Frag) (tv : TE) (rd : V → V → Hp → VK → Prop) (f : Str) (x : V) (σ : St) (H : Hp) (n : Hp → Prop) : Prop := ∃ a C dx fs v, x = .ref a ∧ H a = some (.ins C dx fs) ∧ Cls K C ∧ NoAttr K C f ∧ fs.lookup f = some v ∧
  tv σ H fun y H2 => rd v y H2 fun z H3 => ∃ dx' fs', H3 a = some (.ins C dx' fs') ∧ fs'.length < 1000 ∧ n (upd H3 a (.ins C dx' (putF f z fs')))
def putK (f : Str) (C a : Addr) (z : V) (H : Hp) (n : Hp → Prop) : Prop := ∃ dx' fs', H a = some (.ins C dx' fs') ∧ fs'.length < 1000 ∧ n (upd H a (.ins C dx' (putF f z fs')))
/-- a turn of a while loop, its measure m -/
def whK (W : Nat → St → Hp → Prop) (m : Nat) (tb : TS) (n : St → Hp → Prop) (rt : VK) (σ : St) (H : Hp) : Prop := ∃ N : St → Hp → Prop, (∀ σ' H', N σ' H' → ∃ m', m' < m ∧ W m' σ' H') ∧ tb ⟨N, rt, n, N⟩ σ H
section
variable {K : PySem.W.Frag} {σ : St} {H H' : Hp} {Q : VK} {te ta tv : TE} {tl : TA} {x y v : V} {i j : Int} {rd : V → V → Hp → VK → Prop}
variable {n : St → Hp → Prop} {nH : Hp → Prop} {rt : VK} {bk ct : St → Hp → Prop} {p dx C' : Addr} {fs fs' : List (Str × V)} {C f m : Str} {sp : Sp}
theorem g_mthd {ms : Addr → Sp → Prop} {E : St → XK} (q : te σ H fun x H1 => mthK m ms x H1 fun sp => tl σ H1 fun vs H2 => sp (x :: vs) H2 Q (E σ)) : tMth m ms E te tl σ H Q := q
theorem g_one {A : Sp → Prop} (h : H p = some (.ins C' dx fs)) (hl : fs.lookup m = none) (q : A sp) : mthK m (one C' sp) (.ref p) H A := ⟨p, C', dx, fs, sp, rfl, h, ⟨rfl, rfl⟩, hl, q⟩
theorem g_oneD {A : Sp → Prop} {dvs : List V} (h : H p = some (.ins C' dx fs)) (hl : fs.lookup m = none) (q : A (fun vs H Q E => sp (vs ++ dvs) H Q E)) : mthK m (oneD C' sp dvs) (.ref p) H A := ⟨p, C', dx, fs, _, rfl, h, ⟨rfl, rfl⟩, hl, q⟩
theorem g_orA {A : Sp → Prop} {m1 m2 : Addr → Sp → Prop} (q : mthK m m1 x H A) : mthK m (orM m1 m2) x H A := by
  obtain ⟨a, C, dx, fs, sp, e, h, k, l, q⟩ := q
  exact ⟨a, C, dx, fs, sp, e, h, .inl k, l, q⟩
theorem g_orB {A : Sp → Prop} {m1 m2 : Addr → Sp → Prop} (q : mthK m m2 x H A) : mthK m (orM m1 m2) x H A := by
  obtain ⟨a, C, dx, fs, sp, e, h, k, l, q⟩ := q
  exact ⟨a, C, dx, fs, sp, e, h, .inr k, l, q⟩
theorem g_fldA (h : H p = some (.ins (He.ga K C) dx fs)) (hl : fs.lookup f = some v) (c : HasCls K C) (o : HasNo K C f) (q : Q v H) : fldK K f (.ref p) H Q := g_fldK h c.h o.h hl q
theorem g_stoA (h : H p = some (.ins (He.ga K C) dx fs)) (hl : fs.length < 1000) (e : putF f y fs = fs') (c : HasCls K C) (o : HasNo K C f) (q : nH (upd H p (.ins (He.ga K C) dx fs'))) : stoK K f y (.ref p) H nH := by
  subst e
  exact g_stoK h c.h o.h hl q
theorem g_stoU (hl : fs.length < 1000) (e : putF f y fs = fs') (c : HasCls K C) (o : HasNo K C f) (q : nH (upd H p (.ins (He.ga K C) dx fs'))) : stoK K f y (.ref p) (upd H p (.ins (He.ga K C) dx fs)) nH := by
  refine g_stoA (C := C) upd_same hl e c o ?_
  rw [upd_upd]
  exact q
theorem g_fldaug (q : ta σ H fun x H1 => augK K tv rd f x σ H1 fun H2 => n σ H2) : sFldAug K ta tv rd f ⟨n, rt, bk, ct⟩ σ H := q
theorem g_augA (h : H p = some (.ins (He.ga K C) dx fs)) (hl : fs.lookup f = some v) (c : HasCls K C) (o : HasNo K C f) (q : tv σ H fun y H2 => rd v y H2 fun z H3 => putK f (He.ga K C) p z H3 nH) : augK K tv rd f (.ref p) σ H nH :=
  ⟨p, _, dx, fs, v, rfl, h, c.h, o.h, hl, q⟩
theorem g_putA (h : H p = some (.ins C' dx fs)) (hl : fs.length < 1000) (e : putF f y fs = fs') (q : nH (upd H p (.ins C' dx fs'))) : putK f C' p y H nH := by
  subst e
  exact ⟨dx, fs, h, hl, q⟩
theorem g_putU (hl : fs.length < 1000) (e : putF f y fs = fs') (q : nH (upd H p (.ins C' dx fs'))) : putK f C' p y (upd H p (.ins C' dx fs)) nH := by
  refine g_putA upd_same hl e ?_
  rw [upd_upd]
  exact q
theorem g_iadd (q : Q (.int (i + j)) H) : L2.rAdd (.int i) (.int j) H Q := ⟨i, j, rfl, rfl, q⟩
theorem g_isub (q : Q (.int (i - j)) H) : L2.rSub (.int i) (.int j) H Q := ⟨i, j, rfl, rfl, q⟩
theorem g_while {tc : TT} {tb : TS} (W : Nat → St → Hp → Prop) (m : Nat) (w0 : W m σ H) (hs : ∀ m σ H, W m σ H → tc σ H fun b H1 => if b = true then whK W m tb n rt σ H1 else n σ H1) : tWhile tc tb ⟨n, rt, bk, ct⟩ σ H :=
  ⟨W, ⟨m, w0⟩, fun m σ H w => hs m σ H w⟩
theorem g_whK {tb : TS} {W : Nat → St → Hp → Prop} {m : Nat} (q : tb ⟨fun σ' H' => ∃ m', m' < m ∧ W m' σ' H', rt, n, fun σ' H' => ∃ m', m' < m ∧ W m' σ' H'⟩ σ H) : whK W m tb n rt σ H := ⟨_, fun _ _ h => h, q⟩
theorem g_asgT {g : TG} (q : te σ H fun x H1 => g x σ H1 n) : tAsg te g ⟨n, rt, bk, ct⟩ σ H := q
theorem g_gname {k : Nat} (q : asgn k n v σ H) : gName k v σ H n := q
theorem g_gtup {k : Nat} {t : TGs} {xs : List V} (h : SqT K H p xs) (hl : xs.length = k) (q : t xs σ H n) : gTup K k t (.ref p) σ H n := ⟨p, xs, rfl, h, hl, q⟩
theorem g_gcons {a : TG} {t : TGs} {xs : List V} (q : a v σ H fun σ1 H1 => t xs σ1 H1 n) : gCons a t (v :: xs) σ H n := ⟨v, xs, rfl, q⟩
theorem g_gnil (q : n σ H) : gNil [] σ H n := ⟨rfl, q⟩
theorem g_gsub {to ti : TE} {t : TSet} (q : to σ H fun o H1 => ti σ H1 fun i H2 => t o i v H2 fun H3 => n σ H3) : gSub to ti t v σ H n := q
theorem g_powE {e : Int} (h : CPow i j) (he : i ^ j.toNat = e) (q : Q (.int e) H) : L2.rI CPow (fun i j => .int (i ^ j.toNat)) (.int i) (.int j) H Q := ⟨i, j, rfl, rfl, h, by subst he; exact q⟩
theorem g_powE' {e : Int} (h : CPow i j) (he : i ^ j.toNat = e) (q : Q (.int e) H) : rPow (.int i) (.int j) H Q := g_powE h he q
theorem g_lshE {e : Int} (h : CShl i j) (he : (2 : Int) ^ j.toNat = e) (q : Q (.int (i * e)) H) : rLsh (.int i) (.int j) H Q := ⟨i, j, rfl, rfl, h, by subst he; exact q⟩
theorem g_rshE {e : Int} (h : 0 ≤ j) (he : (2 : Int) ^ j.toNat = e) (q : Q (.int (i / e)) H) : rRsh (.int i) (.int j) H Q := ⟨i, j, rfl, rfl, h, by subst he; exact q⟩
theorem g_mul (h : (-(2 ^ 64) < i ∧ i < 2 ^ 64) ∨ (-(2 ^ 64) < j ∧ j < 2 ^ 64)) (q : Q (.int (i * j)) H) : rTimes (.int i) (.int j) H Q := g_times (CMul.ok h) q
theorem g_p15 (q : Q (.int 1000000000000000) H) : rPow (.int 10) (.int 15) H Q := g_powE' ⟨by decide, by decide, by decide⟩ (by decide) q
theorem g_p60 (q : Q (.int (10 ^ 60)) H) : rPow (.int 10) (.int 60) H Q := g_powE' ⟨by decide, by decide, by decide⟩ (by decide) q
theorem g_m1 {F : V → Hp → VK → XK → Prop} {a : V} {E : XK} (q : F a H Q E) : on1 F [a] H Q E := ⟨a, rfl, q⟩
theorem g_k1 {F : V → Hp → VK → XK → Prop} {a : V} {E : XK} (q : F a H Q E) : on1 F (a :: ([] ++ [])) H Q E := ⟨a, rfl, q⟩
theorem g_m2 {F : V → V → Hp → VK → XK → Prop} {a b : V} {E : XK} (q : F a b H Q E) : on2 F [a, b] H Q E := ⟨a, b, rfl, q⟩
theorem g_k2 {F : V → V → Hp → VK → XK → Prop} {a b : V} {E : XK} (q : F a b H Q E) : on2 F (a :: ([b] ++ [])) H Q E := ⟨a, b, rfl, q⟩
theorem g_m3 {F : V → V → V → Hp → VK → XK → Prop} {a b c : V} {E : XK} (q : F a b c H Q E) : on3 F [a, b, c] H Q E := ⟨a, b, c, rfl, q⟩
theorem g_k3 {F : V → V → V → Hp → VK → XK → Prop} {a b c : V} {E : XK} (q : F a b c H Q E) : on3 F (a :: ([b, c] ++ [])) H Q E := ⟨a, b, c, rfl, q⟩
theorem g_m4 {F : V → V → V → V → Hp → VK → XK → Prop} {a b c d : V} {E : XK} (q : F a b c d H Q E) : on4 F [a, b, c, d] H Q E := ⟨a, b, c, d, rfl, q⟩
theorem g_k4 {F : V → V → V → V → Hp → VK → XK → Prop} {a b c d : V} {E : XK} (q : F a b c d H Q E) : on4 F (a :: ([b, c, d] ++ [])) H Q E := ⟨a, b, c, d, rfl, q⟩
theorem g_m5 {F : V → V → V → V → V → Hp → VK → XK → Prop} {a b c d e : V} {E : XK} (q : F a b c d e H Q E) : on5 F [a, b, c, d, e] H Q E := ⟨a, b, c, d, e, rfl, q⟩
theorem g_k5 {F : V → V → V → V → V → Hp → VK → XK → Prop} {a b c d e : V} {E : XK} (q : F a b c d e H Q E) : on5 F (a :: ([b, c, d, e] ++ [])) H Q E := ⟨a, b, c, d, e, rfl, q⟩
theorem difNY {c A B : Prop} [Decidable c] (h : c) (q : B) : if (!decide c) = true then A else B := by rw [decide_eq_true h]; exact iteF q
theorem difNX {c A B : Prop} [Decidable c] (h : ¬ c) (q : A) : if (!decide c) = true then A else B := by rw [decide_eq_false h]; exact iteT q
end
theorem at0 {u : V} {r : List V} : atI (u :: r) 0 = some u := atI_nat (j := 0) rfl
theorem at1 {u v : V} {r : List V} : atI (u :: v :: r) 1 = some v := atI_nat (j := 1) rfl
theorem at2 {u v w : V} {r : List V} : atI (u :: v :: w :: r) 2 = some w := atI_nat (j := 2) rfl
theorem at3 {u v w x : V} {r : List V} : atI (u :: v :: w :: x :: r) 3 = some x := atI_nat (j := 3) rfl
/-! ### enumerate -/
def forEK (K : PySem.W.Frag) (g : TG) (tb : TS) (n : St → Hp → Prop) (rt : VK) (σ : St) (vs : List V) (H : Hp) : Prop := ∃ a xs, vs = [.ref a] ∧ SqL K H a xs ∧ forJ (Ite K a) g tb n rt σ H
section
variable {K : PySem.W.Frag} {σ σ' : St} {H H' : Hp} {ta : TA} {tb : TS} {g : TG} {n : St → Hp → Prop} {rt : VK} {bk ct : St → Hp → Prop} {a : Addr} {xs : List V} {m1 m2 : Nat}
theorem g_forE (q : ta σ H fun vs H1 => forEK K g tb n rt σ vs H1) : tFor (iEnum K ta) g tb ⟨n, rt, bk, ct⟩ σ H := q
theorem for_E (hs : SqL K H a xs) (Pv : Nat → St → Hp → Prop) (h0 : Pv 0 σ H) (hl : ∀ i σ H, Pv i σ H → SqL K H a xs)
    (ht : ∀ i x σ H T, xs[i]? = some x → H T = none → Pv i σ H → asgn m1 (fun σ1 H1 => asgn m2 (fun σ2 H2 => tb ⟨Pv (i + 1), rt, n, Pv (i + 1)⟩ σ2 H2) x σ1 H1) (.int (i : Int)) σ (upd H T (.tup [.int (i : Int), x])))
    (hd : ∀ σ H, Pv xs.length σ H → n σ H) : forEK K (gTup K 2 (gCons (gName m1) (gCons (gName m2) gNil))) tb n rt σ [.ref a] H := by
  refine ⟨a, xs, rfl, hs, fun i m σ H => m = xs.length - i ∧ i ≤ xs.length ∧ Pv i σ H, ⟨xs.length, rfl, Nat.zero_le _, h0⟩, ?_⟩
  rintro i m σ H ⟨rfl, hi, p⟩
  by_cases hlt : i < xs.length
  · refine .inr ⟨⟨xs, xs[i], hl i σ H p, List.getElem?_eq_getElem hlt⟩, fun σ' H' => Pv (i + 1) σ' H', fun σ' H' q => ⟨xs.length - (i + 1), by omega, rfl, hlt, q⟩, fun v H' hy => ?_⟩
    obtain ⟨T, x, rfl, nT, rfl, ex⟩ := hy
    have ex := ex xs (hl i σ H p)
    exact ⟨T, [.int (i : Int), x], rfl, stt_of upd_same, rfl, _, _, rfl, _, _, rfl, rfl, ht i x σ H T ex nT p⟩
  · have e : i = xs.length := by omega
    subst e
    exact .inl ⟨⟨xs, hl _ σ H p, Nat.le_refl _⟩, hd σ H p⟩
theorem for_EI {ns : List Int} (hs : SqL K H a (ns.map V.int)) (Pv : Nat → St → Hp → Prop) (h0 : Pv 0 σ H) (hl : ∀ i σ H, Pv i σ H → SqL K H a (ns.map V.int))
    (ht : ∀ i z σ H T, ns[i]? = some z → H T = none → Pv i σ H → asgn m1 (fun σ1 H1 => asgn m2 (fun σ2 H2 => tb ⟨Pv (i + 1), rt, n, Pv (i + 1)⟩ σ2 H2) (.int z) σ1 H1) (.int (i : Int)) σ (upd H T (.tup [.int (i : Int), .int z])))
    (hd : ∀ σ H, Pv ns.length σ H → n σ H) : forEK K (gTup K 2 (gCons (gName m1) (gCons (gName m2) gNil))) tb n rt σ [.ref a] H := by
  refine for_E hs Pv h0 hl (fun i x σ H T hx hT p => ?_) fun σ H p => hd σ H (by rw [List.length_map] at p; exact p)
  obtain ⟨z, hz, rfl⟩ := map_at hx
  exact ht i z σ H T hz hT p
end
/-! ### isinstance of own classes -/
class HasIns (K : PySem.W.Frag) (C : Str) : Prop where
  ha : PySem.W.findIn K (.ref (He.ga K C)) "__class__" = some (some (.builtin "object.__class__"))
  hn : PySem.W.specialIn K (.builtin "object.__class__") "__get__" = some (some (.builtin "getset_descriptor.__get__"))
  ht : PySem.W.takesIn K (.builtin "object.__class__") = some true
  hm : PySem.W.mroIn K (He.ga K C) (.type "object") = some true
class HasKit (K : PySem.W.Frag) (C D : Str) (b : outParam Bool) : Prop where h : PySem.W.kitOne K (.ref (He.ga K C)) (.ref (He.ga K D)) = some b
theorem ty_ins {K : PySem.W.Frag} {H : Hp} {a dx : Addr} {C : Str} {fs : List (Str × V)} [c : HasCls K C] [i : HasIns K C] (h : H a = some (.ins (He.ga K C) dx fs)) : TyX K H (.ref a) (.ref (He.ga K C)) := .base (.ins h c.h i.ha i.hn i.ht i.hm)
theorem g_isiC {K : PySem.W.Frag} {H : Hp} {Q : VK} {a dx : Addr} {C D : Str} {b : Bool} {fs : List (Str × V)} [HasCls K C] [HasIns K C] [k : HasKit K C D b] (h : H a = some (.ins (He.ga K C) dx fs)) (q : Q (.bl b) H) : rIsi2 K [.ref a, .ref (He.ga K D)] H Q :=
  .inl ⟨.ref a, .ref (He.ga K D), .ref (He.ga K C), .ref (He.ga K D), b, rfl, .own _, ty_ins h, k.h, q⟩
/-! ### shifts of 1 -/
theorem g_sh15 {H : Hp} {Q : VK} (q : Q (.int 32768) H) : rLsh (.int 1) (.int 15) H Q := g_lshE (e := 32768) ⟨by decide, by decide⟩ (by decide) (by simpa using q)
theorem g_sh16 {H : Hp} {Q : VK} (q : Q (.int 65536) H) : rLsh (.int 1) (.int 16) H Q := g_lshE (e := 65536) ⟨by decide, by decide⟩ (by decide) (by simpa using q)
theorem g_sh23 {H : Hp} {Q : VK} (q : Q (.int 8388608) H) : rLsh (.int 1) (.int 23) H Q := g_lshE (e := 8388608) ⟨by decide, by decide⟩ (by decide) (by simpa using q)
theorem g_sh24 {H : Hp} {Q : VK} (q : Q (.int 16777216) H) : rLsh (.int 1) (.int 24) H Q := g_lshE (e := 16777216) ⟨by decide, by decide⟩ (by decide) (by simpa using q)
theorem g_sh40 {H : Hp} {Q : VK} (q : Q (.int 1099511627776) H) : rLsh (.int 1) (.int 40) H Q := g_lshE (e := 1099511627776) ⟨by decide, by decide⟩ (by decide) (by simpa using q)
theorem g_sh48 {H : Hp} {Q : VK} (q : Q (.int 281474976710656) H) : rLsh (.int 1) (.int 48) H Q := g_lshE (e := 281474976710656) ⟨by decide, by decide⟩ (by decide) (by simpa using q)
theorem g_p30 {H : Hp} {Q : VK} (q : Q (.int 1000000000000000000000000000000) H) : rPow (.int 10) (.int 30) H Q := g_powE' ⟨by decide, by decide, by decide⟩ (by decide) q
/-! Fo, zip: loops and comprehensions over two lists of ints. -/
def forZK (K : PySem.W.Frag) (g : TG) (tb : TS) (n : St → Hp → Prop) (rt : VK) (σ : St) (vs : List V) (H : Hp) : Prop := ∃ a b xs ys, vs = [.ref a, .ref b] ∧ SqL K H a xs ∧ SqL K H b ys ∧ forJ (Itz K a b) g tb n rt σ H
def lcZK (K : PySem.W.Frag) (g : TG) (tt : TT) (te : TE) (us : List Nat) (σ : St) (vs : List V) (H : Hp) (Q : VK) : Prop := ∃ a b xs ys, vs = [.ref a, .ref b] ∧ SqL K H a xs ∧ SqL K H b ys ∧ lcJ (Itz K a b) g tt te us σ H Q
def eachZ (te : TE) (m1 m2 : Nat) (σ : St) (H1 : Hp) (w c : Int) (y : V) : Prop :=
  ∀ H2 Q, Same H1 H2 → (∀ H3, Same H2 H3 → Q y H3) → asgn m1 (fun σ1 H' => asgn m2 (fun σ2 H'' => te σ2 H'' Q) (.int c) σ1 H') (.int w) ((σ.set m2 none).set m1 none) H2
section
variable {K : PySem.W.Frag} {σ σ' : St} {H H' : Hp} {Q : VK} {te : TE} {ta : TA} {tb : TS} {g : TG} {n : St → Hp → Prop} {rt : VK} {bk ct : St → Hp → Prop} {a b : Addr} {ws cs : List Int} {m1 m2 : Nat} {i : Nat} {x y : V}
theorem g_forZ (q : ta σ H fun vs H1 => forZK K g tb n rt σ vs H1) : tFor (iZip K ta) g tb ⟨n, rt, bk, ct⟩ σ H := q
theorem g_lcZ {tt : TT} {us : List Nat} (q : ta σ H fun vs H1 => lcZK K g tt te us σ vs H1 Q) : tLc (iZip K ta) g tt te us σ H Q := q
theorem zip_at (hw : SqL K H a (ws.map V.int)) (hc : SqL K H b (cs.map V.int)) (hx : ∀ xs, SqL K H a xs → xs[i]? = some x) (hy : ∀ ys, SqL K H b ys → ys[i]? = some y) : ∃ w c, ws[i]? = some w ∧ cs[i]? = some c ∧ x = .int w ∧ y = .int c := by
  obtain ⟨w, ew, rfl⟩ := map_at (hx _ hw)
  obtain ⟨c, ec, rfl⟩ := map_at (hy _ hc)
  exact ⟨w, c, ew, ec, rfl, rfl⟩
theorem for_ZI (hs : SqL K H a (ws.map V.int)) (hc : SqL K H b (cs.map V.int)) (hl : ws.length = cs.length) (Pv : Nat → St → Hp → Prop) (h0 : Pv 0 σ H) (hk : ∀ i σ H, Pv i σ H → SqL K H a (ws.map V.int) ∧ SqL K H b (cs.map V.int))
    (ht : ∀ i w c σ H T, ws[i]? = some w → cs[i]? = some c → H T = none → Pv i σ H → asgn m1 (fun σ1 H1 => asgn m2 (fun σ2 H2 => tb ⟨Pv (i + 1), rt, n, Pv (i + 1)⟩ σ2 H2) (.int c) σ1 H1) (.int w) σ (upd H T (.tup [.int w, .int c])))
    (hd : ∀ σ H, Pv ws.length σ H → n σ H) : forZK K (gTup K 2 (gCons (gName m1) (gCons (gName m2) gNil))) tb n rt σ [.ref a, .ref b] H := by
  refine ⟨a, b, _, _, rfl, hs, hc, fun i m σ H => m = ws.length - i ∧ i ≤ ws.length ∧ Pv i σ H, ⟨ws.length, rfl, Nat.zero_le _, h0⟩, ?_⟩
  rintro i m σ H ⟨rfl, hi, p⟩
  obtain ⟨ka, kb⟩ := hk i σ H p
  by_cases hlt : i < ws.length
  · refine .inr ⟨⟨_, _, .int ws[i], .int (cs[i]'(hl ▸ hlt)), ka, kb, ?_, ?_⟩, fun σ' H' => Pv (i + 1) σ' H', fun σ' H' q => ⟨ws.length - (i + 1), by omega, rfl, hlt, q⟩, fun v H' hy => ?_⟩
    · rw [List.getElem?_map, List.getElem?_eq_getElem hlt]; rfl
    · rw [List.getElem?_map, List.getElem?_eq_getElem (hl ▸ hlt)]; rfl
    obtain ⟨T, x, y, rfl, nT, rfl, ex, ey⟩ := hy
    obtain ⟨w, c, ew, ec, rfl, rfl⟩ := zip_at ka kb ex ey
    exact ⟨T, [.int w, .int c], rfl, stt_of upd_same, rfl, _, _, rfl, _, _, rfl, rfl, ht i w c σ H T ew ec nT p⟩
  · have e : i = ws.length := by omega
    subst e
    exact .inl ⟨⟨_, _, ka, kb, .inl (by rw [List.length_map]; exact Nat.le_refl _)⟩, hd σ H p⟩
theorem wipe2 (hne : m1 ≠ m2) (x y : Option V) : wipe (((wipe σ [m1, m2]).set m1 x).set m2 y) [m1, m2] = wipe σ [m1, m2] := by
  show ((((((σ.set m2 none).set m1 none).set m1 x).set m2 y).set m2 none).set m1 none) = ((σ.set m2 none).set m1 none)
  rw [List.set_set, List.set_set, List.set_comm x none hne, List.set_set, List.set_set]
theorem lc_ZI (hs : SqL K H a (ws.map V.int)) (hc : SqL K H b (cs.map V.int)) (hl : ws.length = cs.length) (hne : m1 ≠ m2) (f : Int → Int → V) (hb : ws.length ≤ 1000000)
    (he : ∀ w c, w ∈ ws → c ∈ cs → eachZ te m1 m2 σ H w c (f w c)) (hq : ∀ D H3, H D = none → Same H H3 → H3 D = some (.lst (List.zipWith f ws cs)) → Q (.ref D) H3) :
    lcZK K (gTup K 2 (gCons (gName m1) (gCons (gName m2) gNil))) tYes te [m1, m2] σ [.ref a, .ref b] H Q := by
  refine ⟨a, b, _, _, rfl, hs, hc, fun D hD => ?_⟩
  refine ⟨fun i k H3 => k = ws.length - i ∧ i ≤ ws.length ∧ Same H H3 ∧ H3 D = some (.lst (List.zipWith f (ws.take i) (cs.take i))), ⟨ws.length, rfl, Nat.zero_le _, same_new (Same.refl _) hD, upd_same⟩, ?_⟩
  rintro i k H3 ⟨rfl, hi, s, e⟩
  have ka := s.seq hs
  have kb := s.seq hc
  by_cases hlt : i < ws.length
  · refine .inr ⟨⟨_, _, .int ws[i], .int (cs[i]'(hl ▸ hlt)), ka, kb, ?_, ?_⟩, fun H4 => Same H H4 ∧ H4 D = some (.lst (List.zipWith f (ws.take (i + 1)) (cs.take (i + 1)))), fun H4 p => ⟨ws.length - (i + 1), by omega, rfl, hlt, p⟩, fun v H4 hy => ?_⟩
    · rw [List.getElem?_map, List.getElem?_eq_getElem hlt]; rfl
    · rw [List.getElem?_map, List.getElem?_eq_getElem (hl ▸ hlt)]; rfl
    obtain ⟨T, x, y, rfl, nT, rfl, ex, ey⟩ := hy
    obtain ⟨w, c, ew, ec, rfl, rfl⟩ := zip_at ka kb ex ey
    refine ⟨T, [.int w, .int c], rfl, stt_of upd_same, rfl, _, _, rfl, _, _, rfl, rfl, wipe2 hne _ _, ?_⟩
    have yes : ∀ {A B : Prop}, A → if true = true then A else B := fun h => iteT h
    refine yes (B := ((fun H2 => Same H H2 ∧ H2 D = some (HO.lst (List.zipWith f (ws.take (i + 1)) (cs.take (i + 1))))) (upd H3 T (.tup [.int w, .int c])))) ?_
    have nTD : D ≠ T := ne_of_none e nT
    refine he w c (List.mem_of_getElem? ew) (List.mem_of_getElem? ec) _ _ (same_new s nT) fun H5 s5 => ⟨List.zipWith f (ws.take i) (cs.take i), s5 _ _ (lk_mut nTD e), ?_, same_mut (Same.trans (same_new s nT) s5) hD, ?_⟩
    · rw [List.length_zipWith, List.length_take]
      refine Nat.lt_of_le_of_lt (m := 1000000) ?_ (by decide)
      omega
    · rw [upd_same, List.take_add_one, List.take_add_one, ew, ec]
      rw [List.zipWith_append (by simp only [List.length_take]; omega)]
      rfl
  · have e1 : i = ws.length := by omega
    subst e1
    rw [List.take_length, List.take_of_length_le (Nat.le_of_eq hl.symm)] at e
    exact .inl ⟨⟨_, _, ka, kb, .inl (by rw [List.length_map]; exact Nat.le_refl _)⟩, hq D H3 hD s e⟩
end
/-! ### ranges with a step -/
def forR3K (g : TG) (tb : TS) (n : St → Hp → Prop) (rt : VK) (σ : St) (vs : List V) (H : Hp) : Prop := ∃ (i j c : Int) (k : Nat), vs = [.int i, .int j, .int c] ∧ RgC i j c k ∧ forJ (Itc i c k) g tb n rt σ H
def lcR3K (g : TG) (tt : TT) (te : TE) (vs : List Nat) (σ : St) (us : List V) (H : Hp) (Q : VK) : Prop := ∃ (i j c : Int) (k : Nat), us = [.int i, .int j, .int c] ∧ RgC i j c k ∧ lcJ (Itc i c k) g tt te vs σ H Q
section
variable {K : PySem.W.Frag} {σ σ' : St} {H H' : Hp} {Q : VK} {te : TE} {ta : TA} {tb : TS} {g : TG} {n : St → Hp → Prop} {rt : VK} {bk ct : St → Hp → Prop} {m k : Nat} {i j c : Int}
theorem g_forR3 (q : ta σ H fun vs H1 => forR3K g tb n rt σ vs H1) : tFor (iRng3 ta) g tb ⟨n, rt, bk, ct⟩ σ H := q
theorem g_lcR3 {tt : TT} {vs : List Nat} (q : ta σ H fun us H1 => lcR3K g tt te vs σ us H1 Q) : tLc (iRng3 ta) g tt te vs σ H Q := q
theorem for_R3 (hr : RgC i j c k) (Pv : Nat → St → Hp → Prop) (h0 : Pv 0 σ H)
    (ht : ∀ (l : Nat) σ H, l < k → Pv l σ H → asgn m (fun σ2 H2 => tb ⟨Pv (l + 1), rt, n, Pv (l + 1)⟩ σ2 H2) (.int (i + (l : Int) * c)) σ H) (hd : ∀ σ H, Pv k σ H → n σ H) : forR3K (gName m) tb n rt σ [.int i, .int j, .int c] H := by
  refine ⟨i, j, c, k, rfl, hr, fun l mm σ H => mm = k - l ∧ l ≤ k ∧ Pv l σ H, ⟨k, rfl, Nat.zero_le _, h0⟩, ?_⟩
  rintro l mm σ H ⟨rfl, hl, p⟩
  by_cases hlt : l < k
  · refine .inr ⟨hlt, fun σ' H' => Pv (l + 1) σ' H', fun σ' H' q => ⟨k - (l + 1), by omega, rfl, hlt, q⟩, fun v H' hy => ?_⟩
    obtain ⟨rfl, rfl⟩ := hy
    exact ht l σ _ hlt p
  · have e : l = k := by omega
    subst e
    exact .inl ⟨Nat.le_refl _, hd σ H p⟩
theorem lc_R3 (hr : RgC i j c k) (f : Nat → V) (hl : k ≤ 1000000) (he : ∀ l, l < k → ∀ D, eachK te m σ H D (.int (i + (l : Int) * c)) (f l)) (hq : ∀ D H3, H D = none → Same H H3 → H3 D = some (.lst ((List.range k).map f)) → Q (.ref D) H3) :
    lcR3K (gName m) tYes te [m] σ [.int i, .int j, .int c] H Q := by
  refine ⟨i, j, c, k, rfl, hr, fun D hD => ?_⟩
  refine ⟨fun l kk H3 => kk = k - l ∧ l ≤ k ∧ Same H H3 ∧ H3 D = some (.lst ((List.range l).map f)), ⟨k, rfl, Nat.zero_le _, same_new (Same.refl _) hD, upd_same⟩, ?_⟩
  rintro l kk H3 ⟨rfl, hlk, s, e⟩
  by_cases hlt : l < k
  · refine .inr ⟨hlt, fun H4 => Same H H4 ∧ H4 D = some (.lst ((List.range (l + 1)).map f)), fun H4 p => ⟨k - (l + 1), by omega, rfl, hlt, p⟩, fun v H4 hy => ?_⟩
    obtain ⟨rfl, rfl⟩ := hy
    refine ⟨wipe1 _, ?_⟩
    have yes : ∀ {A B : Prop}, A → if true = true then A else B := fun h => iteT h
    refine yes (B := ((fun H2 => Same H H2 ∧ H2 D = some (HO.lst ((List.range (l + 1)).map f))) H4)) ?_
    refine he l hlt D H4 _ s fun H5 s5 => ⟨(List.range l).map f, s5 _ _ e, ?_, same_mut (Same.trans s s5) hD, ?_⟩
    · rw [List.length_map, List.length_range]
      exact Nat.lt_of_le_of_lt (m := 1000000) (by omega) (by decide)
    · rw [upd_same, List.range_succ, List.map_append]
      rfl
  · have e1 : l = k := by omega
    subst e1
    exact .inl ⟨Nat.le_refl _, hq D H3 hD s e⟩
end
theorem g_mask1 {i : Int} {H : Hp} {Q : VK} (q : Q (.int (i % 2)) H) : rMask (.int i) (.int 1) H Q := ⟨i, 1, rfl, by decide, q⟩
theorem g_extend {H : Hp} {Q : VK} {p r : Addr} {xs ys : List V} (h : H p = some (.lst xs)) (k : H r = some (.lst ys)) (hl : xs.length + ys.length ≤ sizeLine) (q : Q .non (upd H p (.lst (xs ++ ys)))) : rExtend (.ref p) [.ref r] H Q :=
  ⟨p, r, xs, ys, rfl, rfl, h, k, hl, q⟩
/-! ### comprehensions whose elements are new things: each is related to its item -/
section
variable {K : PySem.W.Frag} {σ : St} {H : Hp} {Q : VK} {te : TE} {m : Nat} {a : Addr} {ns : List Int}
theorem lc_LR (hs : SqL K H a (ns.map V.int)) (R : Int → V → Hp → Prop) (mono : ∀ z y H0 H1 D zs, H0 D = some (.lst zs) → SameX (· = D) H0 H1 → R z y H0 → R z y H1) (hl : ns.length ≤ 1000000)
    (he : ∀ z, z ∈ ns → ∀ H2 Q2, Same H H2 → (∀ y H3, Same H2 H3 → R z y H3 → Q2 y H3) → asgn m (fun σ2 H2 => te σ2 H2 Q2) (.int z) (σ.set m none) H2)
    (hq : ∀ D H3 ys, H D = none → Same H H3 → H3 D = some (.lst ys) → ys.length = ns.length → (∀ (i : Nat) z y, ns[i]? = some z → ys[i]? = some y → R z y H3) → Q (.ref D) H3) :
    lcLK K (gName m) tYes te [m] σ (.ref a) H Q := by
  refine ⟨a, rfl, ⟨_, hs⟩, fun D hD => ?_⟩
  refine ⟨fun i k H3 => k = ns.length - i ∧ i ≤ ns.length ∧ Same H H3 ∧ ∃ ys, H3 D = some (.lst ys) ∧ ys.length = i ∧ ∀ (j : Nat) z y, ns[j]? = some z → ys[j]? = some y → R z y H3, ⟨ns.length, rfl, Nat.zero_le _, same_new (Same.refl _) hD, [], upd_same, rfl, fun j z y _ h => by simp at h⟩, ?_⟩
  rintro i k H3 ⟨rfl, hi, s, ys, e, yl, hr⟩
  have ka := s.seq hs
  by_cases hlt : i < ns.length
  · refine .inr ⟨⟨_, .int ns[i], ka, by rw [List.getElem?_map, List.getElem?_eq_getElem hlt]; rfl⟩, fun H4 => Same H H4 ∧ ∃ ys, H4 D = some (.lst ys) ∧ ys.length = i + 1 ∧ ∀ (j : Nat) z y, ns[j]? = some z → ys[j]? = some y → R z y H4, fun H4 p => ⟨ns.length - (i + 1), by omega, rfl, hlt, p⟩, fun v H4 hy => ?_⟩
    obtain ⟨rfl, ex⟩ := hy
    obtain ⟨z, ez, rfl⟩ := map_at (ex _ ka)
    refine ⟨wipe1 _, ?_⟩
    have yes : ∀ {A B : Prop}, A → if true = true then A else B := fun h => iteT h
    refine yes (B := ((fun H4 => Same H H4 ∧ ∃ ys, H4 D = some (HO.lst ys) ∧ ys.length = i + 1 ∧ ∀ (j : Nat) z y, ns[j]? = some z → ys[j]? = some y → R z y H4) H4)) ?_
    refine he z (List.mem_of_getElem? ez) H4 _ s fun y H5 s5 ry => ⟨ys, s5 _ _ e, Nat.lt_of_le_of_lt (m := 1000000) (by omega) (by decide), same_mut (Same.trans s s5) hD, ys ++ [y], upd_same, by rw [List.length_append, yl]; rfl, fun j z' y' hz' hy' => ?_⟩
    have X : SameX (· = D) H5 (upd H5 D (.lst (ys ++ [y]))) := (SameX.refl H5).mut rfl
    rcases Nat.lt_or_ge j i with c | c
    · rw [List.getElem?_append_left (by omega)] at hy'
      exact mono _ _ _ _ D ys (s5 _ _ e) X (mono _ _ _ _ D ys e (SameX.of s5) (hr j z' y' hz' hy'))
    · have ej : j = i := by
        have h2 := (List.getElem?_eq_some_iff.mp hy').1
        rw [List.length_append, yl, List.length_singleton] at h2
        omega
      subst ej
      rw [List.getElem?_append_right (by omega), yl, Nat.sub_self] at hy'
      rw [ez] at hz'
      cases hz'
      cases hy'
      exact mono _ _ _ _ D ys (s5 _ _ e) X ry
  · have e1 : i = ns.length := by omega
    subst e1
    exact .inl ⟨⟨_, ka, by rw [List.length_map]; exact Nat.le_refl _⟩, hq D H3 ys hD s e yl hr⟩
end
/-! Fo, comprehensions by what holds at each turn; with a test. -/
section
variable {K : PySem.W.Frag} {σ : St} {H : Hp} {Q : VK} {te : TE} {ta : TA} {tt : TT} {g : TG} {m : Nat} {a : Addr} {xs : List V} {i j : Int} {k : Nat}
/-- over anything, by what holds of the new list and all that is done so far -/
theorem lc_LN (hs : SqL K H a xs) (hl : xs.length ≤ 1000000) (I : Addr → Nat → List V → Hp → Prop) (h0 : ∀ D, H D = none → I D 0 [] (upd H D (.lst [])))
    (hk : ∀ D i ys H2, I D i ys H2 → SqL K H2 a xs ∧ H2 D = some (.lst ys) ∧ ys.length = i)
    (he : ∀ D i x ys H2 Q2, xs[i]? = some x → I D i ys H2 → (∀ y H4, H4 D = some (.lst ys) → I D (i + 1) (ys ++ [y]) (upd H4 D (.lst (ys ++ [y]))) → Q2 y H4) → asgn m (fun σ2 H2 => te σ2 H2 Q2) x (σ.set m none) H2)
    (hq : ∀ D ys H3, I D xs.length ys H3 → Q (.ref D) H3) : lcLK K (gName m) tYes te [m] σ (.ref a) H Q := by
  refine ⟨a, rfl, ⟨_, hs⟩, fun D hD => ?_⟩
  refine ⟨fun i k H3 => k = xs.length - i ∧ i ≤ xs.length ∧ ∃ ys, I D i ys H3, ⟨xs.length, rfl, Nat.zero_le _, [], h0 D hD⟩, ?_⟩
  rintro i k H3 ⟨rfl, hi, ys, hI⟩
  obtain ⟨ka, e, yl⟩ := hk D i ys H3 hI
  by_cases hlt : i < xs.length
  · refine .inr ⟨⟨_, xs[i], ka, List.getElem?_eq_getElem hlt⟩, fun H4 => ∃ ys, I D (i + 1) ys H4, fun H4 p => ⟨xs.length - (i + 1), by omega, rfl, hlt, p⟩, fun v H4 hy => ?_⟩
    obtain ⟨rfl, ex⟩ := hy
    have ex := ex _ ka
    refine ⟨wipe1 _, ?_⟩
    have yes : ∀ {A B : Prop}, A → if true = true then A else B := fun h => iteT h
    refine yes (B := ((fun H4 => ∃ ys, I D (i + 1) ys H4) H4)) ?_
    exact he D i v ys H4 _ ex hI fun y H5 e5 I5 => ⟨ys, e5, Nat.lt_of_le_of_lt (m := 1000000) (by omega) (by decide), ys ++ [y], I5⟩
  · have e1 : i = xs.length := by omega
    subst e1
    exact .inl ⟨⟨_, ka, Nat.le_refl _⟩, hq D ys H3 hI⟩
/-- over 0 .. k -/
theorem lc_R1N (hk : j = (k : Int)) (hl : k ≤ 1000000) (I : Addr → Nat → List V → Hp → Prop) (h0 : ∀ D, H D = none → I D 0 [] (upd H D (.lst [])))
    (hI : ∀ D i ys H2, I D i ys H2 → H2 D = some (.lst ys) ∧ ys.length = i)
    (he : ∀ D i ys H2 Q2, i < k → I D i ys H2 → (∀ y H4, H4 D = some (.lst ys) → I D (i + 1) (ys ++ [y]) (upd H4 D (.lst (ys ++ [y]))) → Q2 y H4) → asgn m (fun σ2 H2 => te σ2 H2 Q2) (.int (i : Int)) (σ.set m none) H2)
    (hq : ∀ D ys H3, I D k ys H3 → Q (.ref D) H3) : lcR1K (gName m) tYes te [m] σ [.int j] H Q := by
  subst hk
  refine ⟨k, rfl, by omega, by omega, fun D hD => ?_⟩
  refine ⟨fun i n H3 => n = k - i ∧ i ≤ k ∧ ∃ ys, I D i ys H3, ⟨k, rfl, Nat.zero_le _, [], h0 D hD⟩, ?_⟩
  rintro i n H3 ⟨rfl, hi, ys, hI3⟩
  obtain ⟨e, yl⟩ := hI D i ys H3 hI3
  by_cases hlt : i < k
  · refine .inr ⟨by show i < (k : Int).toNat; simpa using hlt, fun H4 => ∃ ys, I D (i + 1) ys H4, fun H4 p => ⟨k - (i + 1), by omega, rfl, hlt, p⟩, fun v H4 hy => ?_⟩
    obtain ⟨rfl, rfl⟩ := hy
    refine ⟨wipe1 _, ?_⟩
    have yes : ∀ {A B : Prop}, A → if true = true then A else B := fun h => iteT h
    refine yes (B := ((fun H4 => ∃ ys, I D (i + 1) ys H4) H4)) ?_
    rw [show (0 : Int) + (i : Int) = (i : Int) by omega]
    exact he D i ys H4 _ hlt hI3 fun y H5 e5 I5 => ⟨ys, e5, Nat.lt_of_le_of_lt (m := 1000000) (by omega) (by decide), ys ++ [y], I5⟩
  · have e1 : i = k := by omega
    subst e1
    exact .inl ⟨by show (i : Int).toNat ≤ i; simp, hq D ys H3 hI3⟩
/-- with a test, over an iteration of ints from i -/
theorem lc_testJ {J : It} (b : Int) (hg : ∀ i H, i < k → J.go i H) (hy : ∀ i H x H2, J.yld i H x H2 → H2 = H ∧ x = .int (b + (i : Int))) (hs : ∀ H, J.stop k H) (hl : k ≤ 1000000) (p : Nat → Bool) (f : Nat → V)
    (he : ∀ i, i < k → ∀ H2 (A : V → Hp → Prop) (B : Hp → Prop), Same H H2 → (p i = true → ∀ H3, Same H2 H3 → A (f i) H3) → (p i = false → ∀ H3, Same H2 H3 → B H3) →
      asgn m (fun σ2 H2 => tt σ2 H2 fun b H3 => if b = true then te σ2 H3 A else B H3) (.int (b + (i : Int))) (σ.set m none) H2)
    (hq : ∀ D H3, H D = none → Same H H3 → H3 D = some (.lst (((List.range k).filter p).map f)) → Q (.ref D) H3) : lcJ J (gName m) tt te [m] σ H Q := by
  intro D hD
  refine ⟨fun i n H3 => n = k - i ∧ i ≤ k ∧ Same H H3 ∧ H3 D = some (.lst (((List.range i).filter p).map f)), ⟨k, rfl, Nat.zero_le _, same_new (Same.refl _) hD, upd_same⟩, ?_⟩
  rintro i n H3 ⟨rfl, hi, s, e⟩
  by_cases hlt : i < k
  · refine .inr ⟨hg i H3 hlt, fun H4 => Same H H4 ∧ H4 D = some (.lst (((List.range (i + 1)).filter p).map f)), fun H4 q => ⟨k - (i + 1), by omega, rfl, hlt, q⟩, fun v H4 hyy => ?_⟩
    obtain ⟨rfl, rfl⟩ := hy _ _ _ _ hyy
    refine ⟨wipe1 _, ?_⟩
    refine he i hlt H4 _ _ s (fun hp H5 s5 => ⟨((List.range i).filter p).map f, s5 _ _ e, ?_, same_mut (Same.trans s s5) hD, ?_⟩) fun hp H5 s5 => ⟨Same.trans s s5, ?_⟩
    · rw [List.length_map]
      have := List.length_filter_le p (List.range i)
      rw [List.length_range] at this
      exact Nat.lt_of_le_of_lt (m := 1000000) (by omega) (by decide)
    · rw [upd_same, List.range_succ, List.filter_append, List.map_append]
      simp [hp]
    · rw [s5 _ _ e, List.range_succ, List.filter_append, List.map_append]
      simp [hp]
  · have e1 : i = k := by omega
    subst e1
    exact .inl ⟨hs H3, hq D H3 hD s e⟩
theorem lc_R1F (hk : j = (k : Int)) (hl : k ≤ 1000000) (p : Nat → Bool) (f : Nat → V)
    (he : ∀ i, i < k → ∀ H2 (A : V → Hp → Prop) (B : Hp → Prop), Same H H2 → (p i = true → ∀ H3, Same H2 H3 → A (f i) H3) → (p i = false → ∀ H3, Same H2 H3 → B H3) →
      asgn m (fun σ2 H2 => tt σ2 H2 fun b H3 => if b = true then te σ2 H3 A else B H3) (.int (0 + (i : Int))) (σ.set m none) H2)
    (hq : ∀ D H3, H D = none → Same H H3 → H3 D = some (.lst (((List.range k).filter p).map f)) → Q (.ref D) H3) : lcR1K (gName m) tt te [m] σ [.int j] H Q := by
  subst hk
  refine ⟨k, rfl, by omega, by omega, lc_testJ (J := Itr 0 (k : Int).toNat) 0 (fun i H hi => by show i < (k : Int).toNat; simpa using hi) (fun i H x H2 y => y) (fun H => by show (k : Int).toNat ≤ k; simp) hl p f he hq⟩
def lcR2K (g : TG) (tt : TT) (te : TE) (vs : List Nat) (σ : St) (us : List V) (H : Hp) (Q : VK) : Prop := ∃ i j : Int, us = [.int i, .int j] ∧ (-(2 ^ 62) ≤ i ∧ i < 2 ^ 62 ∧ -(2 ^ 62) ≤ j ∧ j < 2 ^ 62) ∧ lcJ (Itr i (j - i).toNat) g tt te vs σ H Q
theorem g_lcR2 {vs : List Nat} (q : ta σ H fun us H1 => lcR2K g tt te vs σ us H1 Q) : tLc (iRng2 ta) g tt te vs σ H Q := q
theorem lc_R2F (hk : (j - i).toNat = k) (hb : -(2 ^ 62) ≤ i ∧ i < 2 ^ 62 ∧ -(2 ^ 62) ≤ j ∧ j < 2 ^ 62) (hl : k ≤ 1000000) (p : Nat → Bool) (f : Nat → V)
    (he : ∀ l, l < k → ∀ H2 (A : V → Hp → Prop) (B : Hp → Prop), Same H H2 → (p l = true → ∀ H3, Same H2 H3 → A (f l) H3) → (p l = false → ∀ H3, Same H2 H3 → B H3) →
      asgn m (fun σ2 H2 => tt σ2 H2 fun b H3 => if b = true then te σ2 H3 A else B H3) (.int (i + (l : Int))) (σ.set m none) H2)
    (hq : ∀ D H3, H D = none → Same H H3 → H3 D = some (.lst (((List.range k).filter p).map f)) → Q (.ref D) H3) : lcR2K (gName m) tt te [m] σ [.int i, .int j] H Q := by
  subst hk
  exact ⟨i, j, rfl, hb, lc_testJ (J := Itr i (j - i).toNat) i (fun l H hl => hl) (fun l H x H2 y => y) (fun H => Nat.le_refl _) hl p f he hq⟩
end
/-! ### and, of any two ints -/
def rBits : R2 := rI0 fun i j => .int (Builtin.bitAnd i j)
theorem o_bits {X : Cx} : OpR X (binaryOp .BitAnd) rBits := op_and
theorem g_bitand {i j : Int} {H : Hp} {Q : VK} (q : Q (.int (Builtin.bitAnd i j)) H) : rBits (.int i) (.int j) H Q := ⟨i, j, rfl, rfl, q⟩
theorem ixN_nat {n k : Nat} (h : k < n) : ixN n (k : Int) = some k := by
  unfold ixN
  rw [if_pos (by omega), if_pos (by omega)]
  rfl
theorem g_setL {H : Hp} {p : Addr} {xs : List V} {n : Nat} {v : V} {nH : Hp → Prop} (h : H p = some (.lst xs)) (hn : n < xs.length) (q : nH (upd H p (.lst (xs.set n v)))) : rSetL (.ref p) (.int (n : Int)) v H nH := ⟨p, xs, n, n, rfl, rfl, h, ixN_nat hn, q⟩
theorem g_on31 {F : V → V → V → Hp → VK → XK → Prop} {a b c : V} {H : Hp} {Q : VK} {E : XK} (q : F a b c H Q E) : on3 F ([a, b] ++ [c]) H Q E := ⟨a, b, c, rfl, q⟩
theorem g_on42 {F : V → V → V → V → Hp → VK → XK → Prop} {a b c d : V} {H : Hp} {Q : VK} {E : XK} (q : F a b c d H Q E) : on4 F ([a, b] ++ [c, d]) H Q E := ⟨a, b, c, d, rfl, q⟩
theorem g_on41 {F : V → V → V → V → Hp → VK → XK → Prop} {a b c d : V} {H : Hp} {Q : VK} {E : XK} (q : F a b c d H Q E) : on4 F ([a, b, c] ++ [d]) H Q E := ⟨a, b, c, d, rfl, q⟩
/-! Fo, try: one clause 'except C as e', its suite asks of which class e is. -/
def rIsET (K : PySem.W.Frag) (D a : Addr) : List V → Hp → VK → Prop := fun xs H Q => ∃ (tp : Addr) (cs : List V) (ws : List Value) (b : Bool), xs = [.ref a, .ref tp] ∧ H tp = some (.tup cs) ∧ Paired ClsV cs ws ∧ PySem.W.kitAny K (.ref D) ws = some b ∧ Q (.bl b) H
theorem call_isET {X : Cx} {a D : Addr} {oe : Obj} {pn : List (Addr × Obj)} (C : ExcC X.K D) (hz : Zc (.ref D) none oe) (hf : ∃ vs, oe.data = .fields vs) : CallR (X.suite a ((a, oe) :: pn)) (.builtin "isinstance") (rIsET X.K D a) := by
  intro pins s σ H xs us Q I r h
  obtain ⟨tp, cs, ws, b, rfl, hT, k, e, q⟩ := h
  obtain ⟨u1, u2, rfl, r1, r2⟩ := vals2 r
  cases (show u2 = Value.ref tp from r2)
  cases (show u1 = Value.ref a from r1)
  obtain ⟨_, its, rv, o, h1, h2, n, h3⟩ := (show ObjOk X.prog X.w H s.heap tp (.tup cs) from I.hok tp _ hT)
  have e3 := ClsV.all k rv
  subst e3
  obtain ⟨oc, od, dt, sl⟩ := o
  simp only at h2 h3
  subst h2 h3
  obtain ⟨hget, _⟩ := I.pin (a, oe) (List.mem_append.mpr (.inl List.mem_cons_self))
  obtain ⟨vs, hv⟩ := hf
  have J : PySem.W.InstAt s.heap a oe D none := by
    obtain ⟨oc, od, oda, osl⟩ := oe
    obtain ⟨h1, h2⟩ := hz
    dsimp only at h1 h2 hv
    subst h1 h2 hv
    exact ⟨hget, rfl, rfl, trivial⟩
  exact PySem.W.kia_tup (PySem.W.handS_kitx_exc C.hg C.hk C.hs C.hd C.ha C.hn C.ht C.hm) I.kIn J h1 e (fun z => nomatch z) fun tk => ⟨.bl b, H, I.tok tk, rfl, q⟩
def rIsEx (K : PySem.W.Frag) (D a : Addr) : List V → Hp → VK → Prop := fun xs H Q => rIsE K D a xs H Q ∨ rIsET K D a xs H Q
theorem c_isx {X : Cx} {a D : Addr} {oe : Obj} {pn : List (Addr × Obj)} (C : ExcC X.K D) (hz : Zc (.ref D) none oe) (hf : ∃ vs, oe.data = .fields vs) : CallR (X.suite a ((a, oe) :: pn)) (.builtin "isinstance") (rIsEx X.K D a) := orCall (call_isE C hz hf) (call_isET C hz hf)
/-- the suite, asked of an exception of an own class without a dict -/
def tEx (K : PySem.W.Frag) (ts : Addr → Addr → TS) : Addr → Value → Option Addr → TS := fun a cls d Dd σ H => ∃ D, cls = .ref D ∧ d = none ∧ ExcC K D ∧ ts a D Dd σ H
def tTry (K : PySem.W.Frag) (c : Value) (i : Nat) (tb : WX → TS) (ts : Addr → Addr → TS) (Wout : WX) : TS := fun D σ H => tb (wAs K c i (tEx K ts) Wout D) D σ H
section
variable {X : Cx} {x n : Str} {c : Value} {i : Nat} {body suite : List Stmt} {b₀ : Stmt} {np pos pos' : Pos} {tb : WX → TS} {ts : Addr → Addr → TS} {Wout : WX}
theorem ps_tryX (hs : X.stack = X.env :: X.outer) (hf : X.env.frame = some X.env.locals) (hN : X.N.Nodup) (hi : X.N[i]? = some n) (hln : X.env.kindOf n = some .local) (hc : Names X x c) (tk : Takes X Wout)
    (hb : ∀ (W : WX) (pn : List (Addr × Obj)) (xe : Value → Shared → Prop), Takes (X.tr pn xe) W → PassesOwn (model X.prog X.w) X.A X.env xe → PSs (X.tr pn xe) body (tb W))
    (hsu : ∀ (a : Addr) (oe : Obj) (D : Addr) (pn : List (Addr × Obj)), Zc (.ref D) none oe → (∃ vs, oe.data = .fields vs) → ExcC X.K D → PSs (X.suite a ((a, oe) :: pn)) (b₀ :: suite) (ts a D)) :
    PS X (.Try body [.ExceptHandler (some (.Name x np)) (some n) (b₀ :: suite) pos'] [] [] pos) (tTry X.K c i tb ts Wout) :=
  ps_try_as hs hf hN hi hln hc tk hb fun a oe cls d pn hz hfd => ⟨fun pins s σ H Dd I h => by
    obtain ⟨D, rfl, rfl, C, h⟩ := h
    exact (hsu a oe D pn hz hfd C).run pins s σ H Dd I h⟩
end
class HasExc (K : PySem.W.Frag) (C : Str) : Prop where h : ExcC K (He.ga K C)
class HasExm (K : PySem.W.Frag) (C D : Str) (b : outParam Bool) : Prop where h : PySem.W.exmOne K (.ref (He.ga K C)) (.ref (He.ga K D)) = some b
class HasKitT (K : PySem.W.Frag) (C : Str) (t : String) (b : outParam Bool) : Prop where h : PySem.W.kitOne K (.ref (He.ga K C)) (.type t) = some b
def unset (i : Nat) (n : St → Hp → Prop) : St → Hp → Prop := fun σ H => n (σ.set i none) H
section
variable {K : PySem.W.Frag} {σ σ' : St} {H : Hp} {Q : VK} {c : Value} {i : Nat} {tb : WX → TS} {ts : Addr → Addr → TS} {Wout : WX} {n : St → Hp → Prop} {rt : VK} {bk ct : St → Hp → Prop} {C D : Str} {a : Addr} {b : Bool}
theorem g_try (q : tb (wAs K c i (tEx K ts) Wout ⟨n, rt, bk, ct⟩) ⟨n, rt, bk, ct⟩ σ H) : tTry K c i tb ts Wout ⟨n, rt, bk, ct⟩ σ H := q
/-- what is raised is caught -/
theorem g_caught (e : HasExc K C) (m : HasExm K C D true) (q : ∀ a, H a = none → asgn i (fun σ1 H1 => ts a (He.ga K C) ⟨unset i n, rt, unset i bk, unset i ct⟩ σ1 H1) (.ref a) σ H) :
    wAs K (.ref (He.ga K D)) i (tEx K ts) Wout ⟨n, rt, bk, ct⟩ (.ref (He.ga K C)) none σ H :=
  ⟨true, m.h, fun _ a ha => ⟨He.ga K C, rfl, rfl, e.h, q a ha⟩, fun z => nomatch z⟩
theorem g_we {W : WX} {cls : Value} {d : Option Addr} (q : W cls d σ H) : WE W σ cls d H := q
theorem g_unset (r : SetR σ i none σ') (q : n σ' H) : unset i n σ H := by
  unfold unset
  rw [r.eq]
  exact q
theorem g_isx1 (k : HasKit K C D b) (q : Q (.bl b) H) : rIsEx K (He.ga K C) a [.ref a, .ref (He.ga K D)] H Q := .inl ⟨.ref (He.ga K D), .ref (He.ga K D), b, rfl, fun u r => r, k.h, q⟩
theorem g_isxT {t : String} (k : HasKitT K C t b) (q : Q (.bl b) H) : rIsEx K (He.ga K C) a [.ref a, .ty t] H Q := .inl ⟨.ty t, .type t, b, rfl, fun u r => r, k.h, q⟩
/-- classes whose answer is no -/
inductive NoneOf (K : PySem.W.Frag) (C : Str) : List V → List Value → Prop
  | nil : NoneOf K C [] []
  | cons {D : Str} {vs : List V} {us : List Value} (k : HasKit K C D false) (h : NoneOf K C vs us) : NoneOf K C (.ref (He.ga K D) :: vs) (.ref (He.ga K D) :: us)
theorem NoneOf.pair {vs : List V} {us : List Value} (h : NoneOf K C vs us) : Paired ClsV vs us ∧ PySem.W.kitAny K (.ref (He.ga K C)) us = some false := by
  induction h with
  | nil => exact ⟨.nil, kitAny_nil⟩
  | cons k h ih => exact ⟨.cons (.own _) ih.1, kitAny_cons k.h (fun _ => ih.2) (fun z => nomatch z)⟩
theorem g_isx0 {tp : Addr} {vs : List V} {us : List Value} (h : H tp = some (.tup vs)) (k : NoneOf K C vs us) (q : Q (.bl false) H) : rIsEx K (He.ga K C) a [.ref a, .ref tp] H Q := .inr ⟨tp, vs, us, false, rfl, h, k.pair.1, k.pair.2, q⟩
end
/-! ### one clause 'except C' without a name; several of them -/
def tTryO (K : PySem.W.Frag) (c : Value) (tb : WX → TS) (ts : TS) (Wout : WX) : TS := fun D σ H => tb (wOnly K c (fun _ _ _ => ts) Wout D) D σ H
section
variable {X : Cx} {x : Str} {c : Value} {body suite : List Stmt} {b₀ : Stmt} {np pos pos' : Pos} {tb : WX → TS} {ts : TS} {Wout : WX}
theorem ps_tryO (hs : X.stack = X.env :: X.outer) (hf : X.env.frame = some X.env.locals) (hc : Names X x c) (tk : Takes X Wout)
    (hb : ∀ (W : WX) (pn : List (Addr × Obj)) (xe : Value → Shared → Prop), Takes (X.tr pn xe) W → PassesOwn (model X.prog X.w) X.A X.env xe → PSs (X.tr pn xe) body (tb W))
    (hsu : ∀ (a : Addr) (oe : Obj) (pn : List (Addr × Obj)), PSs (X.suite a ((a, oe) :: pn)) (b₀ :: suite) ts) :
    PS X (.Try body [.ExceptHandler (some (.Name x np)) none (b₀ :: suite) pos'] [] [] pos) (tTryO X.K c tb ts Wout) :=
  ps_try_only (ts := fun _ _ _ => ts) hs hf hc tk hb fun a oe _ _ pn _ _ => hsu a oe pn
end
section
variable {K : PySem.W.Frag} {σ : St} {H : Hp} {c : Value} {tb : WX → TS} {ts : TS} {Wout : WX} {n : St → Hp → Prop} {rt : VK} {bk ct : St → Hp → Prop} {C D : Str}
theorem g_tryO (q : tb (wOnly K c (fun _ _ _ => ts) Wout ⟨n, rt, bk, ct⟩) ⟨n, rt, bk, ct⟩ σ H) : tTryO K c tb ts Wout ⟨n, rt, bk, ct⟩ σ H := q
theorem g_caughtO (m : HasExm K C D true) (q : ts ⟨n, rt, bk, ct⟩ σ H) : wOnly K (.ref (He.ga K D)) (fun _ _ _ => ts) Wout ⟨n, rt, bk, ct⟩ (.ref (He.ga K C)) none σ H :=
  ⟨true, m.h, fun _ _ _ => q, fun z => nomatch z⟩
theorem g_passedO (m : HasExm K C D false) (q : Wout (.ref (He.ga K C)) none σ H) : wOnly K (.ref (He.ga K D)) (fun _ _ _ => ts) Wout ⟨n, rt, bk, ct⟩ (.ref (He.ga K C)) none σ H :=
  ⟨false, m.h, fun z => (nomatch z), fun _ => q⟩
end
/-! Fo, comprehensions whose element may raise: the exception flies out of the comprehension, at the slots ahead of it. -/
theorem noteFrame_frame {e : Value} {a b : Env} (h : a.frame = b.frame) : noteFrame e a = noteFrame e b := by
  unfold noteFrame PySem.frameOf
  rw [h]
theorem frames_but {B B' h h' : Heap} {C : Addr} (hB : ∀ b, B.get? b = none → B'.get? b = none) (same : ∀ b, b ≠ C → h'.get? b = h.get? b) : ∀ {l : List Env}, C ∉ frs l → h.FunFrames B l → h'.FunFrames B' l
  | [], _, _ => trivial
  | env :: l, hC, ⟨k, ⟨L, o, hf, hb, hh, hn⟩, r⟩ => by
    have nL : L ≠ C := fun z => hC (List.mem_filterMap.mpr ⟨env, List.mem_cons_self, by rw [hf, z]⟩)
    exact ⟨k, ⟨L, o, hf, hB L hb, (same L nL).trans hh, hn⟩, frames_but hB same (fun hm => hC (by
      obtain ⟨e, he, q⟩ := List.mem_filterMap.mp hm
      exact List.mem_filterMap.mpr ⟨e, List.mem_cons_of_mem _ he, q⟩)) r⟩
/-- the context of a comprehension's block whose element may raise: what is raised is noted, the block's names go, then it flies on -/
abbrev blkX (X : Cx) (s3 : Shared) (H3 : Hp) (scope : Scope) (ce : Env) (fp : List Addr) (R : Result → Shared → Prop) : Cx := { X.blk s3 H3 scope ce fp with xe := notedBy (model X.prog X.w) X.A ce fun e s' => R (.error e) s' }
section
variable {X : Cx} {W : WX}
theorem blk_core {n : Bool} {pins : List (Addr × Obj)} {σ : St} {H3 : Hp} {s3 : Shared} {scope : Scope} {ce : Env} {fp : List Addr} {R : Result → Shared → Prop}
    (hs : X.stack = X.env :: X.outer) (hf : X.env.frame = some X.env.locals) (tk : TakesF n X W) (I3 : Inv X pins σ H3 s3) (cf : ce.frame = X.env.frame) (cL : ce.locals = s3.heap.objs.size)
    (f3 : ∀ b ∈ fp, FpOk X pins H3 b ∧ b < s3.heap.objs.size) (hR : ∀ e s', CompFails (model X.prog X.w) X.A X.xe ce e s' → R (.error e) s') :
    ∀ σ', PassesAt (CXF n X.prog X.w) (blkX X s3 H3 scope ce fp R) σ' (WE W σ) := by
  intro σ' pins' H s e s' IY c
  have hfr : X.A.frames = some (X.env :: X.outer) := by rw [I3.ok.frames, hs]
  have JX : Inv X pins σ H s := I3.call' (ch := fp) IY.os IY.base IY.hok IY.bare fun b hb => ⟨(f3 b hb).1.2.2.2.1, (f3 b hb).1.2.1, (f3 b hb).1.2.2.2.2.1, (f3 b hb).1.2.2.2.2.2⟩
  -- the block's names: a dict that is not tracked
  obtain ⟨m, hn, _⟩ := IY.loc
  have hn : s.heap.Ns ce.locals m := hn
  have nC : H ce.locals = none := IY.free
  obtain ⟨n1, n2, n3, n4, n5, n6⟩ : FpOk X pins H ce.locals := by
    rw [cL] at nC ⊢
    exact I3.fpOk (Nat.le_refl _) nC
  have off : ce.locals ∉ frs X.stack := fun hm => by
    rw [hs] at hm
    obtain ⟨v, hv, q⟩ := List.mem_filterMap.mp hm
    rcases List.mem_cons.mp hv with rfl | hv
    · rw [hf] at q
      exact n2 (Option.some.inj q).symm
    · exact n3 (List.mem_filterMap.mpr ⟨v, hv, q⟩)
  generalize hC : ce.locals = C at hn nC n1 n2 n3 n4 n5 n6 off hR
  obtain ⟨oC, es, ep, hoC, hdC, rC⟩ := hn
  -- what the callee let out, in the def's own context
  obtain ⟨a0, B0, H0, cls0, d0, rfl, fl0, hok0, ub0, na0, os0, ag0, w0⟩ := c.ex
  have hC' : s'.heap.get? C = some oC := fl0.1 _ _ (ub0.keep C oC hoC nC off)
  have xx : XEF n X (fun cls d σ1 H1 => W cls d σ1 H1 ∧ H1 C = none) (.ref a0) s' :=
    XEF.of_call (E := fun cls d H1 => W cls d σ H1 ∧ H1 C = none) JX (fun _ _ _ h => h) <| CXF.mk ⟨a0, B0, H0, cls0, d0, rfl, fl0, hok0, ub0, na0, os0, ag0, w0, ub0.free C oC hoC nC⟩
  clear fl0 hok0 ub0 na0 os0 ag0 w0 JX IY
  obtain ⟨a, B, sI, pn, σ1, H1, cls, d, ea, J, low, up, sky, na, os, ag, w, nC1⟩ := xx
  rw [ea]
  clear ea
  have J0 : Inv X [] σ1 H1 sI := J.pins_of fun p hp => nomatch hp
  -- without the block's names
  obtain ⟨G, g1, g2⟩ := restrict sI.heap fun b => decide (b ≠ C)
  obtain ⟨B', b1, b2⟩ := restrict B fun b => decide (b ≠ C)
  have only : ∀ {h h' : Heap}, (∀ b, decide (b ≠ C) = true → h'.get? b = h.get? b) → (∀ b, decide (b ≠ C) = false → h'.get? b = none) → ∀ b o, h'.get? b = some o → b ≠ C ∧ h.get? b = some o := fun k1 k2 b o e => by
    by_cases z : b = C
    · rw [k2 b (by simp [z])] at e; cases e
    · rw [k1 b (by simp [z])] at e; exact ⟨z, e⟩
  have JG : Inv X [] σ1 H1 { sI with heap := G } := J0.turned (it := C) (t' := sI.toks) (fun b o hb e => by rw [g1 b (by simp [hb])]; exact e) nC1 n2 n4 n5 fun p hp => n6 p (List.mem_append_left _ (by simpa using hp))
  have none' : ∀ b, B.get? b = none → B'.get? b = none := fun b e => by
    cases q : B'.get? b with
    | none => rfl
    | some o => rw [(only b1 b2 b o q).2] at e; cases e
  show wpAny (model X.prog X.w) X.A (noteFrame (.ref a) ce) _ _ s'
  rw [noteFrame_frame cf]
  have fin : ∀ h1, HandSPX.HeldZ B (X.env :: X.outer) a (Zf n cls d) X.env.locals h1 → s'.heap.UpToSlots h1 → R (.error (.ref a)) { s' with heap := h1 } := by
    rintro h1 ⟨k1, k2, k3, oe, vs, T, oT, ts, he, hz, hd, hv, hnT, hTe, hT, hdT, h3⟩ up1
    obtain ⟨sl, hC1⟩ := up1 C oC hC' fun vs z => by rw [hdC] at z; cases z
    refine hR _ _ ?_
    show ∃ m, h1.Ns ce.locals m ∧ ∀ h' m', h'.Ns ce.locals m' → Heap.SameBut ce.locals h1 h' → wpAny (model X.prog X.w) X.A (passOn "comprehension.variables-let-go" (.ref a) ce : Sem Value) (fun _ _ => False) X.xe { s' with heap := h' }
    rw [hC]
    refine ⟨m, ⟨_, es, ep, hC1, hdC, rC⟩, fun h' m' _ sb => ?_⟩
    have same : ∀ b, b ≠ C → h'.get? b = h1.get? b := fun b hb => sb.2 b hb
    have nF : ∀ {b : Addr} {o : Obj} {vs : Array Value}, h1.get? b = some o → o.data = .fields vs → b ≠ C := fun e dd z => by
      rw [z, hC1] at e
      cases e
      rw [show ({ oC with slots := sl } : Obj).data = oC.data from rfl, hdC] at dd
      cases dd
    have held : HandSPX.HeldZ B' (X.env :: X.outer) a (Zf n cls d) X.env.locals h' := by
      refine ⟨fun b o e => ?_, none' a k2, frames_but none' same (by rw [← hs]; exact off) k3, oe, vs, T, oT, ts, (same a (nF he hd)).trans he, hz, hd, hv, none' T hnT, hTe, (same T (nF hT hdT)).trans hT, hdT, h3⟩
      obtain ⟨z, e⟩ := only b1 b2 b o e
      exact (same b z).trans (k1 b o e)
    have flies : wpAny (model X.prog X.w) X.A (do setFlight (.ref a) ce.frame; throw (.ref a) : Sem Value) (fun _ _ => False) X.xe { s' with heap := h' } := by
      rw [cf, hf]
      refine wpAny_bind (HandSPX.setFlight_onZ held fun h4 hh4 up4 => wpAny_throw (tk.go _ _ ?_))
      refine ⟨a, B', { sI with heap := G }, [], σ1, H1, cls, d, rfl, JG, fun b o e hb => ?_, fun b o e hnf => ?_, .inr (.inr (by rw [hs]; exact hh4)), na, os, ag, w⟩
      · obtain ⟨z, e⟩ := only g1 g2 b o e
        rw [b1 b (by simp [z])]
        exact low b o e hb
      · obtain ⟨z, e⟩ := only g1 g2 b o e
        obtain ⟨sl1, e1⟩ := (up.trans up1) b o e hnf
        obtain ⟨sl2, e2⟩ := up4 b _ ((same b z).trans e1) hnf
        exact ⟨sl2, e2⟩
    unfold PySem.passOn
    refine wpAny_bind (wpAny_field ((same a (nF he hd)).trans he) hd hv ?_)
    rw [if_neg (by simp)]
    first
      | exact flies
      | exact wpAny_bind (wpAny_pure flies)
  have sky : Sky B (X.env :: X.outer) a (Zf n cls d) X.env.locals s'.heap := by rw [← hs]; exact sky
  rcases sky with ⟨y1, y2, y3, oe, vs, he, hz, hd, hv⟩ | fl | held
  · exact PXN.look_newZ Zf.steady1 hfr y3 hf he y1 y2 hd hv hz fin
  · exact PXN.looks_onZ Zf.steady1 hfr hf fl fin
  · exact HandSPX.againZ hf held.2.2.2 (fin s'.heap held (Heap.UpToSlots.refl _))
theorem blk_out {n : Bool} {pins : List (Addr × Obj)} {σ : St} {H3 : Hp} {s3 : Shared} {scope : Scope} {ce : Env} {fp : List Addr} {R : Result → Shared → Prop}
    (hs : X.stack = X.env :: X.outer) (hf : X.env.frame = some X.env.locals) (tk : TakesF n X W) (I3 : Inv X pins σ H3 s3) (cf : ce.frame = X.env.frame) (cL : ce.locals = s3.heap.objs.size)
    (f3 : ∀ b ∈ fp, FpOk X pins H3 b ∧ b < s3.heap.objs.size) (hR : ∀ e s', CompFails (model X.prog X.w) X.A X.xe ce e s' → R (.error e) s') :
    Out n (blkX X s3 H3 scope ce fp R) (fun _ => WE W σ) := by
  have core := blk_core (n := n) (scope := scope) hs hf tk I3 cf cL f3 hR
  cases n with
  | false => exact out_of core
  | true => exact ⟨core, fun z => nomatch z⟩
end
/-- [elt for target in iter if ..], the element may raise: E the wish of what is raised, at the slots ahead of the comprehension -/
def tLcX (wi : TI) (g : TG) (tt : TT) (te : XK → TE) (vs : List Nat) (E : St → XK) : TE := fun σ H Q => tLc wi g tt (te (E σ)) vs σ H Q
theorem g_lcX {wi : TI} {g : TG} {tt : TT} {te : XK → TE} {vs : List Nat} {E : St → XK} {σ : St} {H : Hp} {Q : VK} (q : tLc wi g tt (te (E σ)) vs σ H Q) : tLcX wi g tt te vs E σ H Q := q
/-- what a comprehension's parts are asked to be, whatever its block's place is -/
structure LcOk (n : Bool) (X : Cx) (elt tg : Expr) (ifs : List Expr) (scope : Scope) (own : List (Str × Nat)) (g : TG) (tt : TT) (te : XK → TE) : Prop where
  ok : BlkOk X.N X.env.scope scope own
  tg : ∀ (s : Shared) (H : Hp) (C : Addr) (cl : List (Str × Addr)) (fp : List Addr), PG (X.blk s H scope (compEnvC scope cl C X.env) fp) tg g
  ifs : ∀ (s : Shared) (H : Hp) (C : Addr) (cl : List (Str × Addr)) (fp : List Addr), PTs (X.blk s H scope (compEnvC scope cl C X.env) fp) ifs tt
  elt : ∀ (s : Shared) (H : Hp) (C : Addr) (cl : List (Str × Addr)) (fp : List Addr) (R : Result → Shared → Prop) (E1 : XK), Out n (blkX X s H scope (compEnvC scope cl C X.env) fp R) (fun _ => E1) → PE (blkX X s H scope (compEnvC scope cl C X.env) fp R) elt (te E1)
section
variable {n : Bool} {X : Cx} {W : WX} {pins : List (Addr × Obj)} {σ : St} {H : Hp} {s : Shared} {Q : VK} {elt tg iter : Expr} {ifs : List Expr} {scope : Scope} {own : List (Str × Nat)} {pos pos' : Pos} {wi : TI} {g : TG} {tt : TT} {te : XK → TE} {use : Option (Value → Sem Unit)} {Qf : Value → Shared → Prop}
/-- the loop of the block, its list at D, its iterator at it -/
theorem lcX_loop {s3 s4 : Shared} {H3 : Hp} {ce : Env} {cl : List (Str × Addr)} {fp : List Addr} {it D : Addr} {tn : Nat → Heap → Prop} {J : It} {R : Result → Shared → Prop} {Wn : Nat → Nat → Hp → Prop} {m0 : Nat} {E1 : XK}
    (hc : X.calm = true) (L : LcOk n X elt tg ifs scope own g tt te) (hce : ce = compEnvC scope cl s3.heap.objs.size X.env) (T : Turn X.prog X.w X.K tg J fp it tn) (out : Out n (blkX X s3 H3 scope ce fp R) (fun _ => E1))
    (I4 : Inv (X.blk s3 H3 scope ce fp) [] (wipe σ (own.map (·.2))) H3 s4) (st4 : tn 0 s4.heap) (nfp : ∀ b ∈ fp, H3 b = none) (w0 : Wn 0 m0 H3)
    (turn : ∀ i m H, Wn i m H → (J.stop i H ∧ Q (.ref D) H) ∨ (J.go i H ∧ ∃ Nx : Hp → Prop, (∀ H', Nx H' → ∃ m', m' < m ∧ Wn (i + 1) m' H') ∧ ∀ x H', J.yld i H x H' → g x (wipe σ (own.map (·.2))) H' fun σ2 H2 => wipe σ2 (own.map (·.2)) = wipe σ (own.map (·.2)) ∧ tt σ2 H2 fun b H3 =>
      if b = true then te E1 σ2 H3 fun y H4 => ∃ acc, H4 D = some (.lst acc) ∧ acc.length < sizeLine ∧ Nx (upd H4 D (.lst (acc ++ [y]))) else Nx H3))
    (fin : ∀ (s6 : Shared) (H5 : Hp), Inv (X.blk s3 H3 scope ce fp) [] (wipe σ (own.map (·.2))) H5 s6 → Q (.ref D) H5 → R (.ok .next) s6) :
    codeAny (model X.prog X.w) X.A (.compLoop (.ListComp elt [⟨tg, iter, ifs, 0⟩] scope pos) 0 (.ref it) (.ref D) ce) R s4 := by
  have still : ∀ {σ' : St} {H' : Hp} {s' : Shared}, Inv (X.blk s3 H3 scope ce fp) [] σ' H' s' → (∀ b ∈ fp, H' b = none) → ∀ b ∈ fp, FpOk (X.blk s3 H3 scope ce fp) [] H' b := fun I' hn b hb =>
    ⟨hn b hb, (I'.ok.exf b hb).1, I'.ok.exfs b hb, .inl hb, fun x c e => (I'.ok.exf b hb).2 x c e, fun p hp => by cases hp⟩
  refine compLoop_any (fun n s' => ∃ i H', Inv (X.blk s3 H3 scope ce fp) [] (wipe σ (own.map (·.2))) H' s' ∧ tn i s'.heap ∧ (∀ b ∈ fp, H' b = none) ∧ Wn i n H') (fun n s5 h5 => ?_) m0 ⟨0, H3, I4, st4, nfp, w0⟩
  obtain ⟨i, H5, I5, st5, n5, w5⟩ := h5
  rcases turn i n H5 w5 with ⟨stop, qq⟩ | ⟨go, Nx, hNx, step⟩
  · refine thnF (T.done (X.blk s3 H3 scope ce fp) rfl rfl rfl hc i [] s5 _ H5 (fun _ _ => False) I5 (still I5 n5) st5 stop) fun r s6 h6 => ?_
    rw [h6.1]
    exact fin s6 H5 h6.2 qq
  refine thnF (T.item (X.blk s3 H3 scope ce fp) rfl rfl rfl hc i [] s5 _ H5 (fun _ _ => False) I5 (still I5 n5) st5 go) fun r s6 h6 => ?_
  obtain ⟨u, rfl, h6⟩ := h6
  refine thnF h6 fun _ s7 h7 => ?_
  obtain ⟨x, H7, I7, r7, y7, st7, n7⟩ := h7
  have objs := T.obj _ _ st7
  -- a turn that went on
  have next : ∀ {s' : Shared} {H' : Hp} {σ8 : St}, wipe σ8 (own.map (·.2)) = wipe σ (own.map (·.2)) → Inv (X.blk s3 H3 scope ce fp) ([] ++ pinsAt fp s7.heap) σ8 H' s' → Nx H' →
      ∃ m, m < n ∧ ∃ i H', Inv (X.blk s3 H3 scope ce fp) [] (wipe σ (own.map (·.2))) H' s' ∧ tn i s'.heap ∧ (∀ b ∈ fp, H' b = none) ∧ Wn i m H' := fun {s' H' σ8} hw I' nx => by
    obtain ⟨m', hm, w'⟩ := hNx H' nx
    have kept : ∀ b ∈ fp, ∀ o, s7.heap.get? b = some o → s'.heap.get? b = some o ∧ H' b = none := fun b hb o e => by
      have z := I'.pin (b, o) (List.mem_append_right _ (List.mem_append_right _ (mem_pinsAt hb e)))
      exact ⟨z.1, z.2.1⟩
    refine ⟨m', hm, i + 1, H', (I'.unpinned (pins := [])).weak (by rw [← hw, wipe_length]) (fun j v e => by rw [← hw] at e; exact (wipe_some e).1), T.keep _ _ _ st7 fun b hb o e => (kept b hb o e).1, fun b hb => ?_, w'⟩
    obtain ⟨o, e, _⟩ := objs b hb
    exact (kept b hb o e).2
  subst hce
  refine thnF ((L.tg s3 H3 _ cl fp).run _ s7 _ H7 x u _ (I7.pinned (still I7 n7) objs) r7 (step x H7 y7)) fun _ s8 h8 => ?_
  obtain ⟨σ8, H8, I8, hw, q8⟩ := h8
  refine thnF ((L.ifs s3 H3 _ cl fp).run _ s8 σ8 H8 _ I8 q8) fun b s9 h9 => ?_
  obtain ⟨H9, I9, q9⟩ := h9
  cases b with
  | false => exact next hw I9 q9
  | true =>
    refine thn ((L.elt s3 H3 _ cl fp R E1 out).run _ s9 σ8 H9 _ (I9.wish _) q9) fun z s10 h10 => ?_
    obtain ⟨yv, H10, I10, r10, acc, hD, hz, nx⟩ := h10
    exact app_ok (X := X.blk s3 H3 scope (compEnvC scope cl s3.heap.objs.size X.env) fp) (Inv.unwish (X := X.blk s3 H3 scope (compEnvC scope cl s3.heap.objs.size X.env) fp) I10) hD hz r10 fun s11 I11 => next hw I11 nx
theorem lcX_core (hc : X.calm = true) (hN : X.N.Nodup) (hs : X.stack = X.env :: X.outer) (hf : X.env.frame = some X.env.locals) (tk : TakesF n X W) (I : Inv X pins σ H s) (hi : PI X tg iter wi) (L : LcOk n X elt tg ifs scope own g tt te)
    (hfs : ∀ x, foldedSetIterable iter X.env x = pure x) (h : tLc wi g tt (te (WE W σ)) (own.map (·.2)) σ H Q)
    (hEnd : ∀ (D C : Addr) (s' : Shared) (m : Str → Option Value) (H' : Hp) (cenv : Env), cenv.locals = C → Inv X pins σ H' s' → Q (.ref D) H' → s'.heap.Ns C m → FpOk X pins H' C → compEnds (model X.prog X.w) X.A X.xe use Qf (.ref D) cenv (.ok .next) s') :
    wpAny (model X.prog X.w) X.A (comprehension (.ListComp elt [⟨tg, iter, ifs, 0⟩] scope pos) scope X.env pos' (newList []) false (eval iter X.env) use) Qf X.xe s := by
  have cells : ∀ y ∈ scope.names, y.2 = .free → ∃ c, X.env.cells.lookup y.1 = some c := fun y hy e => (L.ok.free y hy e).elim (fun z => I.ok.has _ (.inl z)) fun z => I.ok.has _ (.inr z)
  refine comprehension_at (use := use) rfl hfs (closure_ok cells) L.ok.kind (fun y hy e => (L.ok.uniq y hy).trans (by rw [e])) (thn (hi.run pins s σ H _ I h) fun xv s1 h1 => thn h1 fun itv s2 h2 => ?_)
  obtain ⟨it, fp, tn, J, H2, rfl, I2, T, st2, f2, q⟩ := h2
  refine wpAny_newObj_type (newEnv_comp ?_) (by show 0 ≤ sizeLine; decide)
  obtain ⟨Wn, ⟨m0, w0⟩, turn⟩ := q s2.heap.objs.size (I2.hok.fresh (Nat.le_refl _))
  have I3 : Inv X pins σ (upd H2 s2.heap.objs.size (.lst [])) { s2 with heap := s2.heap.push { cls := .type "list", data := .seq ([] : List Value).toArray } } :=
    I2.laid (t' := s2.toks) (fun b o e => Heap.get?_push_of_some _ e) (Nat.le_refl _) ⟨Nat.zero_le _, [], 0, .nil, Heap.get?_push_size _ rfl⟩
  have old : ∀ b o, s2.heap.get? b = some o → ({ s2 with heap := s2.heap.push { cls := .type "list", data := .seq ([] : List Value).toArray } } : Shared).heap.get? b = some o := fun b o e => Heap.get?_push_of_some _ e
  have sz : ({ s2 with heap := s2.heap.push { cls := .type "list", data := .seq ([] : List Value).toArray } } : Shared).heap.objs.size = s2.heap.objs.size + 1 := Heap.size_push ..
  have f3 : ∀ b ∈ fp, FpOk X pins (upd H2 s2.heap.objs.size (.lst [])) b ∧ b < ({ s2 with heap := s2.heap.push { cls := .type "list", data := .seq ([] : List Value).toArray } } : Shared).heap.objs.size := fun b hb => by
    obtain ⟨o, e, _⟩ := T.obj _ _ st2 b hb
    have lt := Heap.lt_size e
    exact ⟨⟨by rw [upd_ne (Nat.ne_of_lt lt)]; exact (f2 b hb).1, (f2 b hb).2⟩, by rw [sz]; exact Nat.lt_succ_of_lt lt⟩
  have st3 := T.keep _ _ _ st2 fun b _ o e => old b o e
  generalize s2.heap.objs.size = D at I3 w0 turn f3 ⊢
  generalize upd H2 D (.lst []) = H3 at I3 w0 f3
  generalize ({ s2 with heap := s2.heap.push { cls := .type "list", data := .seq ([] : List Value).toArray } } : Shared) = s3 at I3 f3 st3 ⊢
  have I4 := block_start I3 L.ok hN f3
  have st4 : tn 0 (pushCells (s3.heap.push { cls := .type "dict", data := .dict #[] }) scope.names) := T.keep _ _ _ st3 fun b _ o e => pushCells_keeps _ _ _ _ (Heap.get?_push_of_some _ e)
  refine codeAny_compStart_list ?_ (T.self X.A 0 _ _ _ st4 ?_) <;>
  · refine lcX_loop (Wn := Wn) (m0 := m0) (E1 := WE W σ) (fp := fp) (s3 := s3) (Q := Q) hc L rfl T (blk_out hs hf tk I3 rfl rfl f3 fun e s' z => z) I4 st4 (fun b hb => (f3 b hb).1.1) w0 turn fun s6 H5 I6 qq => ?_
    have nC : H5 s3.heap.objs.size = none := I6.free
    obtain ⟨m, hn, _⟩ := I6.loc
    exact hEnd D s3.heap.objs.size s6 m H5 _ rfl (I3.call' (ch := fp) I6.os I6.base I6.hok I6.bare fun b hb => ⟨(f3 b hb).1.2.2.2.1, (f3 b hb).1.2.1, (f3 b hb).1.2.2.2.2.1, (f3 b hb).1.2.2.2.2.2⟩) qq hn (I3.fpOk (Nat.le_refl _) nC)
end
section
variable {n : Bool} {X : Cx} {W : WX} {elt tg iter : Expr} {ifs : List Expr} {scope : Scope} {own : List (Str × Nat)} {pos : Pos} {wi : TI} {g : TG} {tt : TT} {te : XK → TE}
theorem pe_lcX (hc : X.calm = true) (hN : X.N.Nodup) (hs : X.stack = X.env :: X.outer) (hf : X.env.frame = some X.env.locals) (tk : TakesF n X W) (hi : PI X tg iter wi) (L : LcOk n X elt tg ifs scope own g tt te) (hfs : ∀ x, foldedSetIterable iter X.env x = pure x := by intro _; rfl) :
    PE X (.ListComp elt [⟨tg, iter, ifs, 0⟩] scope pos) (tLcX wi g tt te (own.map (·.2)) (WE W)) := by
  constructor
  intro pins s σ H Q I h
  rw [eval_ListComp]
  refine lcX_core hc hN hs hf tk I hi L hfs h fun D C s' m H' cenv hC I' q hn f => ?_
  show ∃ m, s'.heap.Ns cenv.locals m ∧ ∀ h', Heap.SameBut cenv.locals s'.heap h' → EP X pins σ Q (.ref D) { s' with heap := h' }
  rw [hC]
  obtain ⟨f0, f1, _, f3, f4, f5⟩ := f
  exact ⟨m, hn, fun h' sb => ⟨.ref D, H', I'.turned (t' := s'.toks) (fun b o hb e => (sb.2 b hb).trans e) f0 f1 f3 f4 f5, rfl, q⟩⟩
theorem ps_setLcX {i : Nat} {y : Str} {py spos : Pos} (hc : X.calm = true) (hN : X.N.Nodup) (hy : X.N[i]? = some y) (hyl : X.env.scope.names.lookup y = some .local) (hsw : swapsWith (.ListComp elt [⟨tg, iter, ifs, 0⟩] scope pos) (some (.Name y py)) spos.line X.env = pure true)
    (hs : X.stack = X.env :: X.outer) (hf : X.env.frame = some X.env.locals) (tk : TakesF n X W) (hi : PI X tg iter wi) (L : LcOk n X elt tg ifs scope own g tt te) (hfs : ∀ x, foldedSetIterable iter X.env x = pure x := by intro _; rfl) :
    PS X (.Assign [.Name y py] (.ListComp elt [⟨tg, iter, ifs, 0⟩] scope pos) spos) (tAsg (tLcX wi g tt te (own.map (·.2)) (WE W)) (gName i)) := by
  constructor
  intro pins s σ H D I h
  have h : tLc wi g tt (te (WE W σ)) (own.map (·.2)) σ H (fun x H1 => gName i x σ H1 D.nx) := h
  rw [exec_Assign_Name_used _ _ _ _ hsw]
  refine wpAny_bind (wpAny_standAt (wpAny_bind (wpAny_bind (thn (lcX_core (Qf := fun _ s' => SP X pins D .next s') hc hN hs hf tk I hi L hfs h fun l C s' m H' cenv hC I' q hn f => ?_) fun _ s' hq => wpAny_pure (wpAny_pure hq)))))
  show wpAny _ _ (assign (.Name y py) X.env (.ref l)) (fun _ s'' => ∃ m, s''.heap.Ns cenv.locals m ∧ ∀ h', Heap.SameBut cenv.locals s''.heap h' → SP X pins D .next { s'' with heap := h' }) _ _
  rw [hC]
  obtain ⟨f0, f1, _, f3, f4, f5⟩ := f
  refine wpAny_assign_Name (store_ok2 (v := V.ref l) I' hN hy (.inl hyl) rfl (fun s2 I2 ⟨a, sb, ha⟩ => ⟨m, hn.sameBut sb ?_, fun h3 sb3 => ⟨_, H', I2.turned (t' := s2.toks) (fun b o hb e => (sb3.2 b hb).trans e) f0 f1 f3 f4 f5, q⟩⟩) (.inr hyl))
  rcases ha with z | z
  · rw [z]; exact f1
  · exact fun e => f4 y a z e.symm
end
/-! Fo, make: an own class that has no __init__. -/
structure Mk0 (K : PySem.W.Frag) (C : Addr) : Prop where
  makes : PySem.W.makesIn K C = true
  init : PySem.W.findIn K (.ref C) "__init__" = some (some (.builtin "object.__init__"))
  top : PySem.W.mroIn K C (.type "object") = some true
  kp : PySem.W.keepIn K (.ref C) = true
theorem make_new0 {prog : Program} {w : World} {A : Around} {K : PySem.W.Frag} {C : Addr} {R : Result → Shared → Prop} {s : Shared} (M : Mk0 K C) (X : K.In s.heap)
    (X2 : K.In ((s.heap.push PySem.W.emptyDict).push (PySem.W.instObj C s.heap.objs.size)))
    (h : R (.ok (.ret (.ref (s.heap.objs.size + 1)))) { s with heap := (s.heap.push PySem.W.emptyDict).push (PySem.W.instObj C s.heap.objs.size) }) :
    codeAny (model prog w) A (.call (.ref C) ⟨[], []⟩) R s := by
  refine make_map0 X M.makes M.init (fun self => PySem.W.Looks.of_pure (PySem.W.oi_bind _)) ?_
  have ho : ((s.heap.push PySem.W.emptyDict).push (PySem.W.instObj C s.heap.objs.size)).get? (s.heap.objs.size + 1) = some (PySem.W.instObj C s.heap.objs.size) := by
    have z := Heap.get?_push_size (s.heap.push PySem.W.emptyDict) (o := PySem.W.instObj C s.heap.objs.size) rfl
    rwa [Heap.size_push] at z
  have t1 : PySem.W.Looks (model prog w) ((s.heap.push PySem.W.emptyDict).push (PySem.W.instObj C s.heap.objs.size)) (typeOf (.ref (s.heap.objs.size + 1))) (.ref C) := NwA.type_at ho rfl
  have t2 : PySem.W.Looks (model prog w) ((s.heap.push PySem.W.emptyDict).push (PySem.W.instObj C s.heap.objs.size)) (isInstance (.ref (s.heap.objs.size + 1)) (.type "object")) true := t1.andThen (PySem.W.looks_mroIn X2 M.top)
  obtain ⟨hh, g, d, t, os⟩ := s
  refine codeAny_call_builtin PySem.W.oi_plain PySem.W.entry_oi (@PySem.W.check_slot (model prog w) _ _ _ "object.__init__" "object" "__init__" _ [] [] _ PySem.W.oi_kind PySem.W.oi_split t2 (NwA.oi_args_any _ [] []) ?_)
  rw [PySem.W.oi_run]
  exact wpAny_pure (And.intro rfl h)
/-- C(): the new instance x, its dict dx -/
def tNew0 (C : Addr) : TE := fun _ H Q => ∀ x dx, H x = none → H dx = none → dx ≠ x → Q (.ref x) (upd (upd H dx (.own x)) x (.ins C dx []))
theorem g_new0 {C : Addr} {σ : St} {H : Hp} {Q : VK} (q : ∀ x dx, H x = none → H dx = none → dx ≠ x → Q (.ref x) (upd (upd H dx (.own x)) x (.ins C dx []))) : tNew0 C σ H Q := q
section
variable {X : Cx} {C : Addr} {x : Str} {p pos : Pos}
theorem pe_newO (M : Mk0 X.K C) (hm : X.mg x = some (.ref C)) (hg : Gl X x := by rfl) (hdb : (x == ("__debug__" : Str)) = false := by decide) : PE X (.Call (.Name x p) [] [] pos) (tNew0 C) := by
  refine ⟨fun pins s σ H Q I h => ?_⟩
  refine wpAny_Call_Name_kw (ld_glob I hg hm ?_ hdb)
  refine PySem.W.callWith_K0 I.kIn M.kp ?_
  have n1 := I.hok.fresh (Nat.le_succ s.heap.objs.size)
  have n2 := I.hok.fresh (Nat.le_refl s.heap.objs.size)
  have I2 := Inv.made (C := C) I
  exact wpAny_call (make_new0 M I.kIn I2.kIn ⟨V.ref (s.heap.objs.size + 1), _, I2, rfl, h _ _ n1 n2 (Nat.ne_of_lt (Nat.lt_succ_self _))⟩)
end
/-- a global that is a tuple -/
class HasTup (K : PySem.W.Frag) (x : Str) (vs : outParam (List V)) : Prop where h : ∀ H, SqT K H (He.ga K x) vs
/-! Fo, lists of ints kept as maps: slices, sums, displays -/
section
variable {K : PySem.W.Frag} {H : Hp} {Q : VK} {p q : Addr} {α : Type} {f : α → V} {ns ms : List α}
theorem g_slTo {k : Nat} (h : SqL K H p (ns.map f)) (r : ∀ l, H l = none → Q (.ref l) (upd H l (.lst ((ns.take k).map f)))) : rSlL K (.ref p) none (some (k : Int)) H Q :=
  g_slL h fun l hl => by rw [cutV_map, cutL_to]; exact r l hl
theorem g_slFrom {k : Nat} (h : SqL K H p (ns.map f)) (r : ∀ l, H l = none → Q (.ref l) (upd H l (.lst ((ns.drop k).map f)))) : rSlL K (.ref p) (some (k : Int)) none H Q :=
  g_slL h fun l hl => by rw [cutV_map, cutL_from]; exact r l hl
theorem g_slBut (h : SqL K H p (ns.map f)) (r : ∀ l, H l = none → Q (.ref l) (upd H l (.lst (ns.dropLast.map f)))) : rSlL K (.ref p) none (some (-1)) H Q :=
  g_slL h fun l hl => by rw [cutV_map, cutL_butlast]; exact r l hl
theorem g_slMid {i j : Nat} (h : SqL K H p (ns.map f)) (r : ∀ l, H l = none → Q (.ref l) (upd H l (.lst (((ns.drop i).take (j - i)).map f)))) : rSlL K (.ref p) (some (i : Int)) (some (j : Int)) H Q :=
  g_slL h fun l hl => by rw [cutV_map, cutL_both]; exact r l hl
theorem g_catM (h : H p = some (.lst (ns.map f))) (k : H q = some (.lst (ms.map f))) (hl : (ns.map f).length + (ms.map f).length ≤ sizeLine) (r : ∀ l, H l = none → Q (.ref l) (upd H l (.lst ((ns ++ ms).map f)))) : rPlus K (.ref p) (.ref q) H Q :=
  g_cat h k hl fun l nl => by rw [← List.map_append]; exact r l nl
theorem g_lst1 {a : Int} (r : ∀ l, H l = none → Q (.ref l) (upd H l (.lst (([a] : List Int).map V.int)))) : lstK [V.int a] H Q := g_lstK (by show 1 ≤ sizeLine; decide) r
theorem g_lst2 {a b : Int} (r : ∀ l, H l = none → Q (.ref l) (upd H l (.lst (([a, b] : List Int).map V.int)))) : lstK [V.int a, V.int b] H Q := g_lstK (by show 2 ≤ sizeLine; decide) r
theorem rep_flat (n : Nat) (b : Int) : (List.replicate n (([b] : List Int).map V.int)).flatten = (List.replicate n b).map V.int := by
  induction n with
  | zero => rfl
  | succ n ih => rw [List.replicate_succ, List.flatten_cons, ih, List.replicate_succ]; rfl
theorem g_rep1 {b i : Int} (h : H p = some (.lst (([b] : List Int).map V.int))) (hl : -(2 ^ 62) ≤ i ∧ i ≤ 1000000) (r : ∀ l, H l = none → Q (.ref l) (upd H l (.lst ((List.replicate i.toNat b).map V.int)))) : rTimes (.ref p) (.int i) H Q :=
  g_rep h (by omega) (by omega) (Nat.le_trans (m := 1000000) (by rw [List.length_map, List.length_singleton]; omega) (by decide)) fun l nl => by rw [rep_flat]; exact r l nl
theorem g_appI {z : Int} {ns : List Int} (h : H p = some (.lst (ns.map V.int))) (hl : (ns.map V.int).length + 1 ≤ sizeLine) (r : Q .non (upd H p (.lst ((ns ++ [z]).map V.int)))) : rAppend (.ref p) [.int z] H Q :=
  g_append h (by omega) (by rw [List.map_append] at r; exact r)
end
section
variable {K : PySem.W.Frag} {H : Hp} {Q : VK} {p : Addr} {x : V} {xs : List V} {b : Bool}
theorem g_amongT (h : SqT K H p xs) (fx : flatV x = true) (fs : xs.all flatV = true) (e : inV x xs = b) (q : Q (.bl b) H) : rAmong K x (.ref p) H Q := .inl ⟨p, xs, rfl, .inr h, fx, fs, by rw [e]; exact q⟩
theorem g_amongL (h : SqL K H p xs) (fx : flatV x = true) (fs : xs.all flatV = true) (e : inV x xs = b) (q : Q (.bl b) H) : rAmong K x (.ref p) H Q := .inl ⟨p, xs, rfl, .inl h, fx, fs, by rw [e]; exact q⟩
theorem g_notamongL (h : SqL K H p xs) (fx : flatV x = true) (fs : xs.all flatV = true) (e : inV x xs = b) (q : Q (.bl (!b)) H) : rNotAmong K x (.ref p) H Q := .inl ⟨p, xs, rfl, .inl h, fx, fs, by rw [e]; exact q⟩
theorem g_notamongT (h : SqT K H p xs) (fx : flatV x = true) (fs : xs.all flatV = true) (e : inV x xs = b) (q : Q (.bl (!b)) H) : rNotAmong K x (.ref p) H Q := .inl ⟨p, xs, rfl, .inr h, fx, fs, by rw [e]; exact q⟩
end
/-! Fo, a tuple of the module's own top, asked by its methods -/
class HasTupD (K : PySem.W.Frag) (x : Str) : Prop where h : ∃ o, K.lookup (He.ga K x) = some o ∧ o.cls = .type "tuple" ∧ o.dict = none
/-! Fo, end: from a law's promise to its statement. -/
theorem cx_any {P : Program} {w : World} {K : PySem.W.Frag} {mg : Str → Option Value} {base : Heap} {k : Nat} {f : Addr} {fd : FuncData} {ps : List Str} {sp : Sp} (F : FnOk P w K mg base (L2.CX P w) k f fd ps sp) :
    FnOk P w K mg base (fun o H s E u s' => ∃ (P : Program) (w : World), L2.CX P w o H s E u s') k f fd ps sp :=
  ⟨F.len, fun A outer s H args us vs Q E hr he hb hv hs => codeAny_mono (F.run A outer s H args us vs Q E hr he hb hv hs) fun r s' h => match r, h with
    | .ok (.ret u), h => h
    | .ok .next, h => h
    | .ok .brk, h => h
    | .ok .cont, h => h
    | .error e, h => ⟨P, w, h⟩⟩
theorem exn_ok {K : PySem.W.Frag} {h : Heap} {mg : Str → Option Value} {x : Str} (KX : K.In h) (G : h.Ns mainGlobals mg) (c : (He.Fa.glo x).ok K = true) (d : (He.Fa.exc x).ok K = true) : Exn K mg x (He.ga K x) := by
  obtain ⟨a, b, e, f⟩ := He.exc_ok d
  exact ⟨He.glo_ok KX G c, a, b, e, f⟩
theorem ok_of {n : Bool} {P : Program} {w : World} {K : PySem.W.Frag} {mg : Str → Option Value} {base : Heap} {x qual : Str} {st : Stmt} {f : Addr} {fd : FuncData} {N ps : List Str} {k : Nat} {sp : Sp} {T : XK → TS} {dvs : List V} (F : FunD K x qual (defArgs st) (defBody st) (defScope st) dvs [] f fd) (S : FnScope N ps (defScope st))
    (len : ∀ vs H Q E, sp vs H Q E → vs.length = ps.length)
    (body : ∀ (cdv : Value) (A : Around) (outer : List Env) (s : Shared) (H : Hp) (E : XK), Room k (A.deeper (envOfC qual (defScope st) s.heap.objs.size f cdv)) → PSs (cxD n P w K mg base N qual st f cdv A outer s H E) (defBody st) (T E))
    (read : ∀ vs H Q E, sp vs H Q E → T E { nx := fun _ H' => Q .non H', rt := Q } (start N vs) H) : FnOk P w K mg base (CXF n P w) (k + 1) f fd ps sp :=
  F.ok S len fun cdv A outer s H vs Q E hr h => ⟨T E, body cdv A outer s H E hr, read vs H Q E h⟩
/-! ### further facts of the written part -/
inductive Xf where
  | ins (C : Str) | kit (C D : Str) (b : Bool) | kitT (C : Str) (n : String) (b : Bool) | kitB (n : String) (D : Str) (b : Bool) | tup (x : Str) (vs : List He.Dv) | exc (C : Str) | mk0 (C : Str) | tupd (x : Str)
def Xf.ok (K : PySem.W.Frag) : Xf → Bool
  | .ins C => He.eqO (PySem.W.findIn K (.ref (He.ga K C)) "__class__") (some (some (.builtin "object.__class__"))) && (He.eqO (PySem.W.specialIn K (.builtin "object.__class__") "__get__") (some (some (.builtin "getset_descriptor.__get__"))) &&
      (decide (PySem.W.takesIn K (.builtin "object.__class__") = some true) && decide (PySem.W.mroIn K (He.ga K C) (.type "object") = some true)))
  | .kit C D b => decide (PySem.W.kitOne K (.ref (He.ga K C)) (.ref (He.ga K D)) = some b)
  | .kitT C n b => decide (PySem.W.kitOne K (.ref (He.ga K C)) (.type n) = some b)
  | .kitB n D b => decide (PySem.W.kitOne K (.type n) (.ref (He.ga K D)) = some b)
  | .tup x vs => He.tupB K x vs
  | .tupd x => (match K.lookup (He.ga K x) with
    | some ⟨.type c, none, _, _⟩ => decide (c = "tuple")
    | _ => false)
  | .mk0 C => PySem.W.makesIn K (He.ga K C) && (He.eqO (PySem.W.findIn K (.ref (He.ga K C)) "__init__") (some (some (.builtin "object.__init__"))) && (decide (PySem.W.mroIn K (He.ga K C) (.type "object") = some true) && PySem.W.keepIn K (.ref (He.ga K C))))
  | .exc C => He.eqO (PySem.W.findIn K (.ref (He.ga K C)) "__getattribute__") (some (some (.builtin "BaseException.__getattribute__"))) && (He.eqO (PySem.W.findIn K (.ref (He.ga K C)) "__getattr__") (some none) &&
      (decide (PySem.W.subIn K (.ref (He.ga K C)) (.type "BaseException") = some true) && (PySem.W.hasDictIn K (He.ga K C) && (He.eqO (PySem.W.findIn K (.ref (He.ga K C)) "__class__") (some (some (.builtin "object.__class__"))) &&
      (He.eqO (PySem.W.specialIn K (.builtin "object.__class__") "__get__") (some (some (.builtin "getset_descriptor.__get__"))) && (decide (PySem.W.takesIn K (.builtin "object.__class__") = some true) && decide (PySem.W.mroIn K (He.ga K C) (.type "object") = some true)))))))
abbrev AlX : Type := Bool × He.AlD
def obsX (fa : List He.Fa) (fn : List He.DefD) (xf : List Xf) (K : PySem.W.Frag) : AlX := (xf.all fun f => f.ok K, He.obsD fa fn K)
structure SaysX (fa : List He.Fa) (fn : List He.DefD) (xf : List Xf) (K : PySem.W.Frag) : Prop where
  d : He.SaysD fa fn K
  x : (xf.all fun f => f.ok K) = true
/-! ### what the module's names reach, each once; seen is a row of bits -/
def seeX (acc : List Addr × List Addr × Nat) (b : Addr) : List Addr × List Addr × Nat :=
  if Nat.beq (Nat.land (Nat.shiftRight acc.2.2 b) 1) 0 then (b :: acc.1, b :: acc.2.1, Nat.lor acc.2.2 (Nat.shiftLeft 1 b)) else acc
def growX (g : Addr → Option Obj) (st : List Addr × List Addr × Nat) : List Addr × List Addr × Nat :=
  st.1.foldl (fun acc a => match g a with
    | some o => (He.refsD o).foldl seeX acc
    | none => acc) ([], st.2.1, st.2.2)
def stX (g : Addr → Option Obj) : Nat → List Addr × List Addr × Nat
  | 0 => ([mainGlobals], [mainGlobals], Nat.shiftLeft 1 mainGlobals)
  | n + 1 => growX g (stX g n)
def asX (g : Addr → Option Obj) (n : Nat) : List Addr := (stX g n).2.1.reverse
def obsXG (n : Nat) (fa : List He.Fa) (fn : List He.DefD) (xf : List Xf) (g : Addr → Option Obj) : AlX := obsX fa fn xf (He.frG g (asX g n))
def hookX (n : Nat) (fa : List He.Fa) (fn : List He.DefD) (xf : List Xf) : PySem.W.Hook where
  α := AlX
  obs := fun s => obsXG n fa fn xf s.heap.get?
  val := fun _ => (true, He.valD fn)
  says := fun _ h => ∃ K : PySem.W.Frag, K.In h ∧ SaysX fa fn xf K
  of := fun _ s e => ⟨He.frG s.heap.get? (asX s.heap.get? n), He.frG_in, ⟨congrArg (fun z : AlX => z.2) e, congrArg (fun z : AlX => z.1) e⟩⟩
  keeps := fun _ _ _ ⟨K, hK, c⟩ k => ⟨K, PySem.W.Frag.In.keeps hK k, c⟩
theorem obsXG_eq {n : Nat} {fa : List He.Fa} {fn : List He.DefD} {xf : List Xf} {g : Addr → Option Obj} {s : Shared} (h : ∀ a, g a = s.heap.get? a) : obsXG n fa fn xf g = (hookX n fa fn xf).obs s := by
  have e : g = s.heap.get? := funext h
  rw [e] <;> rfl
theorem allB_app {α : Type} {p : α → Bool} {l k : List α} (h : l.all p = true) (h2 : k.all p = true) : (l ++ k).all p = true := by rw [List.all_append, h, h2]; rfl
theorem obsX_join {fa1 fa2 : List He.Fa} {fn1 fn2 : List He.DefD} {xf1 xf2 : List Xf} {K : PySem.W.Frag} (h1 : obsX fa1 fn1 xf1 K = (true, He.valD fn1)) (h2 : obsX fa2 fn2 xf2 K = (true, He.valD fn2)) : obsX (fa1 ++ fa2) (fn1 ++ fn2) (xf1 ++ xf2) K = (true, He.valD (fn1 ++ fn2)) := by
  obtain ⟨x1, d1⟩ := Prod.mk.injEq .. ▸ h1
  obtain ⟨x2, d2⟩ := Prod.mk.injEq .. ▸ h2
  obtain ⟨a1, m1⟩ := Prod.mk.injEq .. ▸ (show (_, _) = (_, _) from d1)
  obtain ⟨a2, m2⟩ := Prod.mk.injEq .. ▸ (show (_, _) = (_, _) from d2)
  obtain ⟨a1, b1⟩ := He.ba a1
  obtain ⟨a2, b2⟩ := He.ba a2
  refine Prod.ext (allB_app x1 x2) (Prod.ext ?_ ?_)
  · show (((fa1 ++ fa2).all fun f => f.ok K) && (fn1 ++ fn2).all fun d => d.ok K) = true
    rw [allB_app a1 a2, allB_app b1 b2]
    rfl
  · show (fn1 ++ fn2).map (fun d => He.fnW K d.at_) = (fn1 ++ fn2).map He.DefD.val
    rw [List.map_append, List.map_append, m1, m2]
/-! ### the run of the main text, in parts -/
section
open PySem.W PySem.Calls HandSHeadRun
def RunA (r : OpenRow) (q : Program) (M : Nat) (loose : List PySem.Str) (w : World) : Prop :=
  ∀ os : OsState, (endF (stepQ (denQ tabQ) r.prog w) M r.prog w os).map (fun s => (looksF r.prog (boot_heap w.params) s.abs, seenQ q loose (importedModules r.prog.main.body) (fun s => xlAt q [] s && recOk r.toRowW.records s) s.abs)) = some (true, openGood q loose)
def RunF (r : OpenRow) (M : Nat) (fa : List He.Fa) (fn : List He.DefD) (xf : List Xf) (w : World) : Prop :=
  ∀ os : OsState, (endF (stepQ (denQ tabQ) r.prog w) M r.prog w os).map (fun s => obsXG 6 fa fn xf (HandSHeadRun.getT s)) = some (true, He.valD fn)
theorem run_join {r : OpenRow} {q : Program} {M : Nat} {loose : List PySem.Str} {w : World} {fa1 fa2 : List He.Fa} {fn1 fn2 : List He.DefD} {xf1 xf2 : List Xf} (h0 : RunA r q M loose w) (h1 : RunF r M fa1 fn1 xf1 w) (h2 : RunF r M fa2 fn2 xf2 w) :
    RunEq r q (hookX 6 (fa1 ++ fa2) (fn1 ++ fn2) (xf1 ++ xf2)) (fun s => obsXG 6 (fa1 ++ fa2) (fn1 ++ fn2) (xf1 ++ xf2) (HandSHeadRun.getT s)) M loose w := by
  intro os
  have h0 := h0 os
  have h1 := h1 os
  have h2 := h2 os
  revert h0 h1 h2
  generalize endF (stepQ (denQ tabQ) r.prog w) M r.prog w os = e
  intro h0 h1 h2
  cases e with
  | none => cases h0
  | some s =>
    have a := Option.some.inj (show some (looksF r.prog (boot_heap w.params) s.abs, seenQ q loose (importedModules r.prog.main.body) (fun s => xlAt q [] s && recOk r.toRowW.records s) s.abs) = some (true, openGood q loose) from h0)
    have b := Option.some.inj (show some (obsXG 6 fa1 fn1 xf1 (HandSHeadRun.getT s)) = some (true, He.valD fn1) from h1)
    have c := Option.some.inj (show some (obsXG 6 fa2 fn2 xf2 (HandSHeadRun.getT s)) = some (true, He.valD fn2) from h2)
    show some (looksF r.prog (boot_heap w.params) s.abs, seenQ q loose (importedModules r.prog.main.body) (fun s => xlAt q [] s && recOk r.toRowW.records s) s.abs, obsXG 6 (fa1 ++ fa2) (fn1 ++ fn2) (xf1 ++ xf2) (HandSHeadRun.getT s)) = some (true, openGood q loose, (true, He.valD (fn1 ++ fn2)))
    have d : obsXG 6 (fa1 ++ fa2) (fn1 ++ fn2) (xf1 ++ xf2) (HandSHeadRun.getT s) = (true, He.valD (fn1 ++ fn2)) := obsX_join b c
    rw [d]
    have a1 : looksF r.prog (boot_heap w.params) s.abs = true := congrArg (fun z => z.1) a
    have a2 := congrArg (fun z => z.2) a
    rw [a1]
    show some (true, _, _) = _
    rw [show seenQ q loose (importedModules r.prog.main.body) (fun s => xlAt q [] s && recOk r.toRowW.records s) s.abs = openGood q loose from a2]
end
section
variable {fa : List He.Fa} {fn : List He.DefD} {xf : List Xf} {K : PySem.W.Frag}
theorem SaysX.fact (c : SaysX fa fn xf K) (i : Nat) {f : He.Fa} (h : fa[i]? = some f := by rfl) : f.ok K = true := c.d.fact i h
theorem SaysX.def_ (c : SaysX fa fn xf K) (i : Nat) {d : He.DefD} (h : fn[i]? = some d := by rfl) : ∃ fd, FunD K d.name d.qual d.params d.body d.scope (d.dvs K) (d.kws K) (He.fAd K d.at_) fd := c.d.def_ i h
theorem SaysX.ext (c : SaysX fa fn xf K) (i : Nat) {f : Xf} (h : xf[i]? = some f := by rfl) : f.ok K = true := List.all_eq_true.mp c.x f (List.mem_of_getElem? h)
end
theorem ins_ok {K : PySem.W.Frag} {C : Str} (c : (Xf.ins C).ok K = true) : HasIns K C := by
  obtain ⟨c1, c⟩ := He.ba c
  obtain ⟨c2, c⟩ := He.ba c
  obtain ⟨c3, c4⟩ := He.ba c
  exact ⟨He.eqO_ok c1, He.eqO_ok c2, of_decide_eq_true c3, of_decide_eq_true c4⟩
theorem kit_ok {K : PySem.W.Frag} {C D : Str} {b : Bool} (c : (Xf.kit C D b).ok K = true) : HasKit K C D b := ⟨of_decide_eq_true c⟩
theorem hexc_ok {K : PySem.W.Frag} {C : Str} (c : (Xf.exc C).ok K = true) : HasExc K C := by
  obtain ⟨c1, c⟩ := He.ba c
  obtain ⟨c2, c⟩ := He.ba c
  obtain ⟨c3, c⟩ := He.ba c
  obtain ⟨c4, c⟩ := He.ba c
  obtain ⟨c5, c⟩ := He.ba c
  obtain ⟨c6, c⟩ := He.ba c
  obtain ⟨c7, c8⟩ := He.ba c
  exact ⟨⟨He.eqO_ok c1, He.eqO_ok c2, of_decide_eq_true c3, c4, He.eqO_ok c5, He.eqO_ok c6, of_decide_eq_true c7, of_decide_eq_true c8⟩⟩
theorem kitT_ok {K : PySem.W.Frag} {C : Str} {t : String} {b : Bool} (c : (Xf.kitT C t b).ok K = true) : HasKitT K C t b := ⟨of_decide_eq_true c⟩
theorem hexm_ok {K : PySem.W.Frag} {C D : Str} {b : Bool} (c : (He.Fa.exm C D b).ok K = true) : HasExm K C D b := ⟨He.exm_ok c⟩
theorem mk0_ok {K : PySem.W.Frag} {C : Str} (c : (Xf.mk0 C).ok K = true) : Mk0 K (He.ga K C) := by
  obtain ⟨c1, c⟩ := He.ba c
  obtain ⟨c2, c⟩ := He.ba c
  obtain ⟨c3, c4⟩ := He.ba c
  exact ⟨c1, He.eqO_ok c2, of_decide_eq_true c3, c4⟩
theorem tup_ok {K : PySem.W.Frag} {x : Str} {vs : List He.Dv} (c : (Xf.tup x vs).ok K = true) : HasTup K x (vs.map (He.Dv.v K)) := ⟨fun H => He.tupB_ok c H⟩
theorem tupd_ok {K : PySem.W.Frag} {x : Str} (c : (Xf.tupd x).ok K = true) : HasTupD K x := by
  have c : (match K.lookup (He.ga K x) with
    | some ⟨.type c, none, _, _⟩ => decide (c = "tuple")
    | _ => false) = true := c
  cases e : K.lookup (He.ga K x) with
  | none => rw [e] at c; cases c
  | some o =>
    obtain ⟨oc, od, dt, sl⟩ := o
    rw [e] at c
    cases oc with
    | type n =>
      cases od with
      | none => exact ⟨_, e, congrArg Value.type (of_decide_eq_true c), rfl⟩
      | some _ => cases c
    | _ => cases c
end Fo
namespace Fo
open PySem PySem.Spec PyProof.Rows L2
abbrev W_ : PySem.W.OpenLaw := PySem.Challenge.rw_foretell_k25_texts_behind_one_another
def top (i : Nat) : Stmt := PySem.Challenge.pw_foretell_k25_texts_behind_one_another.main.body.getD i (.Pass ⟨0, 0, 0, 0⟩)
abbrev s_is_whole : Stmt := top 9
abbrev N_is_whole : List Str := ["thing"]
theorem sc_is_whole : FnScope N_is_whole ["thing"] (defScope s_is_whole) := ⟨rfl, rfl, rfl, by decide +kernel, rfl, by decide +kernel, by decide +kernel⟩
abbrev s_is_bit : Stmt := top 10
abbrev N_is_bit : List Str := ["thing"]
theorem sc_is_bit : FnScope N_is_bit ["thing"] (defScope s_is_bit) := ⟨rfl, rfl, rfl, by decide +kernel, rfl, by decide +kernel, by decide +kernel⟩
abbrev s_is_chance : Stmt := top 11
abbrev N_is_chance : List Str := ["thing"]
theorem sc_is_chance : FnScope N_is_chance ["thing"] (defScope s_is_chance) := ⟨rfl, rfl, rfl, by decide +kernel, rfl, by decide +kernel, by decide +kernel⟩
abbrev s_checked_bit : Stmt := top 12
abbrev N_checked_bit : List Str := ["thing"]
theorem sc_checked_bit : FnScope N_checked_bit ["thing"] (defScope s_checked_bit) := ⟨rfl, rfl, rfl, by decide +kernel, rfl, by decide +kernel, by decide +kernel⟩
abbrev s_checked_chance : Stmt := top 13
abbrev N_checked_chance : List Str := ["thing"]
theorem sc_checked_chance : FnScope N_checked_chance ["thing"] (defScope s_checked_chance) := ⟨rfl, rfl, rfl, by decide +kernel, rfl, by decide +kernel, by decide +kernel⟩
abbrev s_gives : Stmt := top 14
abbrev N_gives : List Str := ["chance", "bit", "c"]
theorem sc_gives : FnScope N_gives ["chance", "bit"] (defScope s_gives) := ⟨rfl, rfl, rfl, by decide +kernel, rfl, by decide +kernel, by decide +kernel⟩
abbrev s_Even_init : Stmt := inClass (top 18) 0
abbrev N_Even_init : List Str := ["self"]
theorem sc_Even_init : FnScope N_Even_init ["self"] (defScope s_Even_init) := ⟨rfl, rfl, rfl, by decide +kernel, rfl, by decide +kernel, by decide +kernel⟩
abbrev s_Even_chance : Stmt := inClass (top 18) 1
abbrev N_Even_chance : List Str := ["self"]
theorem sc_Even_chance : FnScope N_Even_chance ["self"] (defScope s_Even_chance) := ⟨rfl, rfl, rfl, by decide +kernel, rfl, by decide +kernel, by decide +kernel⟩
abbrev s_Even_seen : Stmt := inClass (top 18) 2
abbrev N_Even_seen : List Str := ["self", "bit"]
theorem sc_Even_seen : FnScope N_Even_seen ["self", "bit"] (defScope s_Even_seen) := ⟨rfl, rfl, rfl, by decide +kernel, rfl, by decide +kernel, by decide +kernel⟩
abbrev s_Quick_init : Stmt := inClass (top 19) 0
abbrev N_Quick_init : List Str := ["self"]
theorem sc_Quick_init : FnScope N_Quick_init ["self"] (defScope s_Quick_init) := ⟨rfl, rfl, rfl, by decide +kernel, rfl, by decide +kernel, by decide +kernel⟩
abbrev s_Quick_chance : Stmt := inClass (top 19) 1
abbrev N_Quick_chance : List Str := ["self"]
theorem sc_Quick_chance : FnScope N_Quick_chance ["self"] (defScope s_Quick_chance) := ⟨rfl, rfl, rfl, by decide +kernel, rfl, by decide +kernel, by decide +kernel⟩
abbrev s_Quick_seen : Stmt := inClass (top 19) 2
abbrev N_Quick_seen : List Str := ["self", "bit"]
theorem sc_Quick_seen : FnScope N_Quick_seen ["self", "bit"] (defScope s_Quick_seen) := ⟨rfl, rfl, rfl, by decide +kernel, rfl, by decide +kernel, by decide +kernel⟩
abbrev s_Run_init : Stmt := inClass (top 20) 0
abbrev N_Run_init : List Str := ["self"]
theorem sc_Run_init : FnScope N_Run_init ["self"] (defScope s_Run_init) := ⟨rfl, rfl, rfl, by decide +kernel, rfl, by decide +kernel, by decide +kernel⟩
abbrev s_Run_chance : Stmt := inClass (top 20) 1
abbrev N_Run_chance : List Str := ["self", "same"]
theorem sc_Run_chance : FnScope N_Run_chance ["self"] (defScope s_Run_chance) := ⟨rfl, rfl, rfl, by decide +kernel, rfl, by decide +kernel, by decide +kernel⟩
abbrev s_Run_seen : Stmt := inClass (top 20) 2
abbrev N_Run_seen : List Str := ["self", "bit"]
theorem sc_Run_seen : FnScope N_Run_seen ["self", "bit"] (defScope s_Run_seen) := ⟨rfl, rfl, rfl, by decide +kernel, rfl, by decide +kernel, by decide +kernel⟩
abbrev s_slot_of : Stmt := top 21
abbrev N_slot_of : List Str := ["kind"]
theorem sc_slot_of : FnScope N_slot_of ["kind"] (defScope s_slot_of) := ⟨rfl, rfl, rfl, by decide +kernel, rfl, by decide +kernel, by decide +kernel⟩
abbrev s_are_places : Stmt := top 28
abbrev N_are_places : List Str := ["thing", "last", "place"]
theorem sc_are_places : FnScope N_are_places ["thing"] (defScope s_are_places) := ⟨rfl, rfl, rfl, by decide +kernel, rfl, by decide +kernel, by decide +kernel⟩
abbrev s_is_look : Stmt := top 29
abbrev N_is_look : List Str := ["thing"]
theorem sc_is_look : FnScope N_is_look ["thing"] (defScope s_is_look) := ⟨rfl, rfl, rfl, by decide +kernel, rfl, by decide +kernel, by decide +kernel⟩
abbrev s_checked_looks : Stmt := top 30
abbrev N_checked_looks : List Str := ["thing", "look"]
theorem sc_checked_looks : FnScope N_checked_looks ["thing"] (defScope s_checked_looks) := ⟨rfl, rfl, rfl, by decide +kernel, rfl, by decide +kernel, by decide +kernel⟩
abbrev s_context_of : Stmt := top 31
abbrev N_context_of : List Str := ["look", "signs", "node", "found", "place"]
theorem sc_context_of : FnScope N_context_of ["look", "signs", "node"] (defScope s_context_of) := ⟨rfl, rfl, rfl, by decide +kernel, rfl, by decide +kernel, by decide +kernel⟩
abbrev s_Book_init : Stmt := inClass (top 32) 0
abbrev N_Book_init : List Str := ["self", "look"]
theorem sc_Book_init : FnScope N_Book_init ["self", "look"] (defScope s_Book_init) := ⟨rfl, rfl, rfl, by decide +kernel, rfl, by decide +kernel, by decide +kernel⟩
abbrev s_Book_chance : Stmt := inClass (top 32) 1
abbrev N_Book_chance : List Str := ["self", "signs", "node", "context"]
theorem sc_Book_chance : FnScope N_Book_chance ["self", "signs", "node"] (defScope s_Book_chance) := ⟨rfl, rfl, rfl, by decide +kernel, rfl, by decide +kernel, by decide +kernel⟩
abbrev s_Book_seen : Stmt := inClass (top 32) 2
abbrev N_Book_seen : List Str := ["self", "signs", "node", "bit", "context"]
theorem sc_Book_seen : FnScope N_Book_seen ["self", "signs", "node", "bit"] (defScope s_Book_seen) := ⟨rfl, rfl, rfl, by decide +kernel, rfl, by decide +kernel, by decide +kernel⟩
abbrev s_Mixer_init : Stmt := inClass (top 37) 0
abbrev N_Mixer_init : List Str := ["self", "many"]
theorem sc_Mixer_init : FnScope N_Mixer_init ["self", "many"] (defScope s_Mixer_init) := ⟨rfl, rfl, rfl, by decide +kernel, rfl, by decide +kernel, by decide +kernel⟩
abbrev s_Mixer_weights : Stmt := inClass (top 37) 1
abbrev N_Mixer_weights : List Str := ["self"]
theorem sc_Mixer_weights : FnScope N_Mixer_weights ["self"] (defScope s_Mixer_weights) := ⟨rfl, rfl, rfl, by decide +kernel, rfl, by decide +kernel, by decide +kernel⟩
abbrev s_Mixer_mixed : Stmt := inClass (top 37) 2
abbrev N_Mixer_mixed : List Str := ["self", "chances", "total", "weight", "chance"]
theorem sc_Mixer_mixed : FnScope N_Mixer_mixed ["self", "chances"] (defScope s_Mixer_mixed) := ⟨rfl, rfl, rfl, by decide +kernel, rfl, by decide +kernel, by decide +kernel⟩
abbrev s_Mixer_learn : Stmt := inClass (top 37) 3
abbrev N_Mixer_learn : List Str := ["self", "chances", "bit", "b", "parts", "whole", "many", "grown", "over", "weight", "chance", "part", "one"]
theorem sc_Mixer_learn : FnScope N_Mixer_learn ["self", "chances", "bit"] (defScope s_Mixer_learn) := ⟨rfl, rfl, rfl, by decide +kernel, rfl, by decide +kernel, by decide +kernel⟩
abbrev s_Foreteller_init : Stmt := inClass (top 39) 0
abbrev N_Foreteller_init : List Str := ["self", "looks", "look"]
theorem sc_Foreteller_init : FnScope N_Foreteller_init ["self", "looks"] (defScope s_Foreteller_init) := ⟨rfl, rfl, rfl, by decide +kernel, rfl, by decide +kernel, by decide +kernel⟩
abbrev s_Foreteller_chances : Stmt := inClass (top 39) 1
abbrev N_Foreteller_chances : List Str := ["self", "book"]
theorem sc_Foreteller_chances : FnScope N_Foreteller_chances ["self"] (defScope s_Foreteller_chances) := ⟨rfl, rfl, rfl, by decide +kernel, rfl, by decide +kernel, by decide +kernel⟩
abbrev s_Foreteller_chance : Stmt := inClass (top 39) 2
abbrev N_Foreteller_chance : List Str := ["self"]
theorem sc_Foreteller_chance : FnScope N_Foreteller_chance ["self"] (defScope s_Foreteller_chance) := ⟨rfl, rfl, rfl, by decide +kernel, rfl, by decide +kernel, by decide +kernel⟩
abbrev s_Foreteller_weights : Stmt := inClass (top 39) 3
abbrev N_Foreteller_weights : List Str := ["self"]
theorem sc_Foreteller_weights : FnScope N_Foreteller_weights ["self"] (defScope s_Foreteller_weights) := ⟨rfl, rfl, rfl, by decide +kernel, rfl, by decide +kernel, by decide +kernel⟩
abbrev s_Foreteller_node : Stmt := inClass (top 39) 4
abbrev N_Foreteller_node : List Str := ["self"]
theorem sc_Foreteller_node : FnScope N_Foreteller_node ["self"] (defScope s_Foreteller_node) := ⟨rfl, rfl, rfl, by decide +kernel, rfl, by decide +kernel, by decide +kernel⟩
abbrev s_Foreteller_signs : Stmt := inClass (top 39) 5
abbrev N_Foreteller_signs : List Str := ["self"]
theorem sc_Foreteller_signs : FnScope N_Foreteller_signs ["self"] (defScope s_Foreteller_signs) := ⟨rfl, rfl, rfl, by decide +kernel, rfl, by decide +kernel, by decide +kernel⟩
abbrev s_Foreteller_see : Stmt := inClass (top 39) 6
abbrev N_Foreteller_see : List Str := ["self", "bit", "b", "chances", "book"]
theorem sc_Foreteller_see : FnScope N_Foreteller_see ["self", "bit"] (defScope s_Foreteller_see) := ⟨rfl, rfl, rfl, by decide +kernel, rfl, by decide +kernel, by decide +kernel⟩
abbrev s_Foreteller_go : Stmt := inClass (top 39) 7
abbrev N_Foreteller_go : List Str := ["self", "bit"]
theorem sc_Foreteller_go : FnScope N_Foreteller_go ["self", "bit"] (defScope s_Foreteller_go) := ⟨rfl, rfl, rfl, by decide +kernel, rfl, by decide +kernel, by decide +kernel⟩
abbrev s_Lcell_at : Stmt := top 41
abbrev N_Lcell_at : List Str := ["_law_script", "_law_k"]
theorem sc_Lcell_at : FnScope N_Lcell_at ["_law_script", "_law_k"] (defScope s_Lcell_at) := ⟨rfl, rfl, rfl, by decide +kernel, rfl, by decide +kernel, by decide +kernel⟩
abbrev s_Llook : Stmt := top 42
abbrev N_Llook : List Str := ["_law_cell", "_law_bits_here", "_law_places", "_law_k"]
theorem sc_Llook : FnScope N_Llook ["_law_cell"] (defScope s_Llook) := ⟨rfl, rfl, rfl, by decide +kernel, rfl, by decide +kernel, by decide +kernel⟩
abbrev s_Llooks : Stmt := top 43
abbrev N_Llooks : List Str := ["_law_script", "_law_many", "_law_k"]
theorem sc_Llooks : FnScope N_Llooks ["_law_script"] (defScope s_Llooks) := ⟨rfl, rfl, rfl, by decide +kernel, rfl, by decide +kernel, by decide +kernel⟩
abbrev s_Lsign : Stmt := top 44
abbrev N_Lsign : List Str := ["_law_cell", "_law_first", "_law_way"]
theorem sc_Lsign : FnScope N_Lsign ["_law_cell", "_law_first"] (defScope s_Lsign) := ⟨rfl, rfl, rfl, by decide +kernel, rfl, by decide +kernel, by decide +kernel⟩
abbrev s_Ltext : Stmt := top 45
abbrev N_Ltext : List Str := ["_law_script", "_law_at", "_law_many", "_law_first", "_law_k"]
theorem sc_Ltext : FnScope N_Ltext ["_law_script", "_law_at", "_law_many"] (defScope s_Ltext) := ⟨rfl, rfl, rfl, by decide +kernel, rfl, by decide +kernel, by decide +kernel⟩
abbrev s_Lbits : Stmt := top 46
abbrev N_Lbits : List Str := ["_law_text_here", "_law_bits_here", "_law_sign_here", "_law_k"]
theorem sc_Lbits : FnScope N_Lbits ["_law_text_here"] (defScope s_Lbits) := ⟨rfl, rfl, rfl, by decide +kernel, rfl, by decide +kernel, by decide +kernel⟩
abbrev s_Llearnt : Stmt := top 47
abbrev N_Llearnt : List Str := ["_law_weights", "_law_chances", "_law_bit", "_law_many", "_law_shares", "_law_k", "_law_part", "_law_grown", "_law_short", "_law_by", "_law_share", "_law_one"]
theorem sc_Llearnt : FnScope N_Llearnt ["_law_weights", "_law_chances", "_law_bit"] (defScope s_Llearnt) := ⟨rfl, rfl, rfl, by decide +kernel, rfl, by decide +kernel, by decide +kernel⟩
abbrev s_Lcontext : Stmt := top 48
abbrev N_Lcontext : List Str := ["_law_places", "_law_signs", "_law_node", "_law_seen_here", "_law_place"]
theorem sc_Lcontext : FnScope N_Lcontext ["_law_places", "_law_signs", "_law_node"] (defScope s_Lcontext) := ⟨rfl, rfl, rfl, by decide +kernel, rfl, by decide +kernel, by decide +kernel⟩
abbrev s_Lslots : Stmt := top 49
abbrev N_Lslots : List Str := ["_law_looks_here", "_law_slots_here", "_law_signs", "_law_node", "_law_found", "_law_k", "_law_key"]
theorem sc_Lslots : FnScope N_Lslots ["_law_looks_here", "_law_slots_here", "_law_signs", "_law_node"] (defScope s_Lslots) := ⟨rfl, rfl, rfl, by decide +kernel, rfl, by decide +kernel, by decide +kernel⟩
abbrev s_Lmixed : Stmt := top 50
abbrev N_Lmixed : List Str := ["_law_weights", "_law_chances", "_law_total", "_law_k"]
theorem sc_Lmixed : FnScope N_Lmixed ["_law_weights", "_law_chances"] (defScope s_Lmixed) := ⟨rfl, rfl, rfl, by decide +kernel, rfl, by decide +kernel, by decide +kernel⟩
abbrev s_Lseen : Stmt := top 51
abbrev N_Lseen : List Str := ["_law_foreteller", "_law_looks_here", "_law_slots_here", "_law_weights", "_law_text_here", "_law_node", "_law_signs", "_law_bit", "_law_here", "_law_chances", "_law_told", "_law_slot"]
theorem sc_Lseen : FnScope N_Lseen ["_law_foreteller", "_law_looks_here", "_law_slots_here", "_law_weights", "_law_text_here"] (defScope s_Lseen) := ⟨rfl, rfl, rfl, by decide +kernel, rfl, by decide +kernel, by decide +kernel⟩
abbrev s_law : Stmt := top 52
abbrev N_law : List Str := ["_law_script", "_law_looks_here", "_law_way", "_law_most", "_law_far", "_law_many", "_law_first", "_law_second", "_law_signs", "_law_foreteller", "_law_slots_here", "_law_weights", "_law_texts", "_law_text_here"]
theorem sc_law : FnScope N_law ["_law_script"] (defScope s_law) := ⟨rfl, rfl, rfl, by decide +kernel, rfl, by decide +kernel, by decide +kernel⟩
def faA : List He.Fa := [.cls "Slot", .cls "Even", .noat "Even" "noughts", .noat "Even" "ones", .cls "Quick", .noat "Quick" "held", .cls "Run", .noat "Run" "last", .noat "Run" "length", .cls "Book", .noat "Book" "look", .noat "Book" "slots", .cls "Mixer", .noat "Mixer" "shares", .cls "Foreteller", .noat "Foreteller" "kinds", .noat "Foreteller" "books", .noat "Foreteller" "mixer", .noat "Foreteller" "ended", .noat "Foreteller" "place", .noat "Foreteller" "past", .free "isinstance", .free "int", .free "bool", .int "ONE" 16777216, .free "len", .free "tuple", .int "NO_SIGN" 256, .int "FIRST" 1099511627776, .free "list", .free "zip", .free "sum", .free "range", .glo "is_whole", .int "LEAST" 32768, .int "MOST_PLACES" 4, .int "FARTHEST" 8, .meth "Mixer" "weights", .glo "_law_cell_at", .glo "_law_look", .glo "_law_sign", .glo "is_bit", .glo "NoBit", .exc "NoBit", .glo "is_chance", .glo "NoChance", .exc "NoChance", .glo "Even", .glo "Quick", .glo "Run", .mkr "Even", .mkr "Quick"]
def faB : List He.Fa := [.mkr "Run", .free "str", .glo "KINDS", .glo "are_places", .glo "checked_chance", .glo "checked_bit", .int "MOST_COUNTED" 255, .free "max", .free "min", .free "all", .glo "is_look", .int "MOST_LOOKS" 6, .glo "NoLooks", .exc "NoLooks", .glo "context_of", .glo "slot_of", .meth "Even" "chance", .meth "Quick" "chance", .meth "Run" "chance", .glo "_law_context", .meth "Even" "seen", .meth "Quick" "seen", .meth "Run" "seen", .glo "gives", .int "KEPT" 31, .int "FIGURES" 48, .glo "checked_looks", .glo "Book", .glo "Mixer", .mkr "Book", .mkr "Mixer", .meth "Book" "chance", .meth "Mixer" "mixed", .meth "Foreteller" "chances", .meth "Book" "seen", .meth "Mixer" "learn", .meth "Foreteller" "go", .glo "_law_bits", .glo "_law_slots", .glo "_law_mixed", .glo "_law_learnt", .meth "Foreteller" "chance", .meth "Foreteller" "signs", .meth "Foreteller" "see", .meth "Foreteller" "weights", .glo "_law_looks", .glo "_law_text", .glo "Foreteller", .glo "_law_seen", .meth "Foreteller" "node", .mkr "Foreteller", .glo "law"]
def fa : List He.Fa := faA ++ faB
def fnA : List He.DefD := [⟨("is_whole", none), "is_whole", "is_whole", defArgs s_is_whole, defBody s_is_whole, defScope s_is_whole, [], []⟩,
  ⟨("is_bit", none), "is_bit", "is_bit", defArgs s_is_bit, defBody s_is_bit, defScope s_is_bit, [], []⟩,
  ⟨("is_chance", none), "is_chance", "is_chance", defArgs s_is_chance, defBody s_is_chance, defScope s_is_chance, [], []⟩,
  ⟨("checked_bit", none), "checked_bit", "checked_bit", defArgs s_checked_bit, defBody s_checked_bit, defScope s_checked_bit, [], []⟩,
  ⟨("checked_chance", none), "checked_chance", "checked_chance", defArgs s_checked_chance, defBody s_checked_chance, defScope s_checked_chance, [], []⟩,
  ⟨("gives", none), "gives", "gives", defArgs s_gives, defBody s_gives, defScope s_gives, [], []⟩,
  ⟨("Even", some "__init__"), "__init__", "Even.__init__", defArgs s_Even_init, defBody s_Even_init, defScope s_Even_init, [], []⟩,
  ⟨("Even", some "chance"), "chance", "Even.chance", defArgs s_Even_chance, defBody s_Even_chance, defScope s_Even_chance, [], []⟩,
  ⟨("Even", some "seen"), "seen", "Even.seen", defArgs s_Even_seen, defBody s_Even_seen, defScope s_Even_seen, [], []⟩,
  ⟨("Quick", some "__init__"), "__init__", "Quick.__init__", defArgs s_Quick_init, defBody s_Quick_init, defScope s_Quick_init, [], []⟩,
  ⟨("Quick", some "chance"), "chance", "Quick.chance", defArgs s_Quick_chance, defBody s_Quick_chance, defScope s_Quick_chance, [], []⟩,
  ⟨("Quick", some "seen"), "seen", "Quick.seen", defArgs s_Quick_seen, defBody s_Quick_seen, defScope s_Quick_seen, [], []⟩,
  ⟨("Run", some "__init__"), "__init__", "Run.__init__", defArgs s_Run_init, defBody s_Run_init, defScope s_Run_init, [], []⟩,
  ⟨("Run", some "chance"), "chance", "Run.chance", defArgs s_Run_chance, defBody s_Run_chance, defScope s_Run_chance, [], []⟩,
  ⟨("Run", some "seen"), "seen", "Run.seen", defArgs s_Run_seen, defBody s_Run_seen, defScope s_Run_seen, [], []⟩,
  ⟨("slot_of", none), "slot_of", "slot_of", defArgs s_slot_of, defBody s_slot_of, defScope s_slot_of, [], []⟩,
  ⟨("are_places", none), "are_places", "are_places", defArgs s_are_places, defBody s_are_places, defScope s_are_places, [], []⟩,
  ⟨("is_look", none), "is_look", "is_look", defArgs s_is_look, defBody s_is_look, defScope s_is_look, [], []⟩,
  ⟨("checked_looks", none), "checked_looks", "checked_looks", defArgs s_checked_looks, defBody s_checked_looks, defScope s_checked_looks, [], []⟩,
  ⟨("context_of", none), "context_of", "context_of", defArgs s_context_of, defBody s_context_of, defScope s_context_of, [], []⟩,
  ⟨("Book", some "__init__"), "__init__", "Book.__init__", defArgs s_Book_init, defBody s_Book_init, defScope s_Book_init, [], []⟩,
  ⟨("Book", some "chance"), "chance", "Book.chance", defArgs s_Book_chance, defBody s_Book_chance, defScope s_Book_chance, [], []⟩,
  ⟨("Book", some "seen"), "seen", "Book.seen", defArgs s_Book_seen, defBody s_Book_seen, defScope s_Book_seen, [], []⟩,
  ⟨("Mixer", some "__init__"), "__init__", "Mixer.__init__", defArgs s_Mixer_init, defBody s_Mixer_init, defScope s_Mixer_init, [], []⟩]
def fnB : List He.DefD := [⟨("Mixer", some "weights"), "weights", "Mixer.weights", defArgs s_Mixer_weights, defBody s_Mixer_weights, defScope s_Mixer_weights, [], []⟩,
  ⟨("Mixer", some "mixed"), "mixed", "Mixer.mixed", defArgs s_Mixer_mixed, defBody s_Mixer_mixed, defScope s_Mixer_mixed, [], []⟩,
  ⟨("Mixer", some "learn"), "learn", "Mixer.learn", defArgs s_Mixer_learn, defBody s_Mixer_learn, defScope s_Mixer_learn, [], []⟩,
  ⟨("Foreteller", some "__init__"), "__init__", "Foreteller.__init__", defArgs s_Foreteller_init, defBody s_Foreteller_init, defScope s_Foreteller_init, [], []⟩,
  ⟨("Foreteller", some "chances"), "chances", "Foreteller.chances", defArgs s_Foreteller_chances, defBody s_Foreteller_chances, defScope s_Foreteller_chances, [], []⟩,
  ⟨("Foreteller", some "chance"), "chance", "Foreteller.chance", defArgs s_Foreteller_chance, defBody s_Foreteller_chance, defScope s_Foreteller_chance, [], []⟩,
  ⟨("Foreteller", some "weights"), "weights", "Foreteller.weights", defArgs s_Foreteller_weights, defBody s_Foreteller_weights, defScope s_Foreteller_weights, [], []⟩,
  ⟨("Foreteller", some "node"), "node", "Foreteller.node", defArgs s_Foreteller_node, defBody s_Foreteller_node, defScope s_Foreteller_node, [], []⟩,
  ⟨("Foreteller", some "signs"), "signs", "Foreteller.signs", defArgs s_Foreteller_signs, defBody s_Foreteller_signs, defScope s_Foreteller_signs, [], []⟩,
  ⟨("Foreteller", some "see"), "see", "Foreteller.see", defArgs s_Foreteller_see, defBody s_Foreteller_see, defScope s_Foreteller_see, [], []⟩,
  ⟨("Foreteller", some "go"), "go", "Foreteller.go", defArgs s_Foreteller_go, defBody s_Foreteller_go, defScope s_Foreteller_go, [], []⟩,
  ⟨("_law_cell_at", none), "_law_cell_at", "_law_cell_at", defArgs s_Lcell_at, defBody s_Lcell_at, defScope s_Lcell_at, [], []⟩,
  ⟨("_law_look", none), "_law_look", "_law_look", defArgs s_Llook, defBody s_Llook, defScope s_Llook, [], []⟩,
  ⟨("_law_looks", none), "_law_looks", "_law_looks", defArgs s_Llooks, defBody s_Llooks, defScope s_Llooks, [], []⟩,
  ⟨("_law_sign", none), "_law_sign", "_law_sign", defArgs s_Lsign, defBody s_Lsign, defScope s_Lsign, [], []⟩,
  ⟨("_law_text", none), "_law_text", "_law_text", defArgs s_Ltext, defBody s_Ltext, defScope s_Ltext, [], []⟩,
  ⟨("_law_bits", none), "_law_bits", "_law_bits", defArgs s_Lbits, defBody s_Lbits, defScope s_Lbits, [], []⟩,
  ⟨("_law_learnt", none), "_law_learnt", "_law_learnt", defArgs s_Llearnt, defBody s_Llearnt, defScope s_Llearnt, [], []⟩,
  ⟨("_law_context", none), "_law_context", "_law_context", defArgs s_Lcontext, defBody s_Lcontext, defScope s_Lcontext, [], []⟩,
  ⟨("_law_slots", none), "_law_slots", "_law_slots", defArgs s_Lslots, defBody s_Lslots, defScope s_Lslots, [], []⟩,
  ⟨("_law_mixed", none), "_law_mixed", "_law_mixed", defArgs s_Lmixed, defBody s_Lmixed, defScope s_Lmixed, [], []⟩,
  ⟨("_law_seen", none), "_law_seen", "_law_seen", defArgs s_Lseen, defBody s_Lseen, defScope s_Lseen, [], []⟩,
  ⟨("law", none), "law", "law", defArgs s_law, defBody s_law, defScope s_law, [], []⟩]
def fn : List He.DefD := fnA ++ fnB
def xfA : List Xf := [.tup "KINDS" [.str "even", .str "quick", .str "run"]]
def xfB : List Xf := []
def xf : List Xf := xfA ++ xfB
class SaysC (K : PySem.W.Frag) : Prop where
  out : SaysX fa fn xf K
instance in_0 {K : PySem.W.Frag} [c : SaysC K] : HasCls K "Slot" := ⟨He.cls_ok (c.out.fact 0 rfl)⟩
instance in_1 {K : PySem.W.Frag} [c : SaysC K] : HasCls K "Even" := ⟨He.cls_ok (c.out.fact 1 rfl)⟩
instance in_2 {K : PySem.W.Frag} [c : SaysC K] : HasNo K "Even" "noughts" := ⟨He.noat_ok (c.out.fact 2 rfl)⟩
instance in_3 {K : PySem.W.Frag} [c : SaysC K] : HasNo K "Even" "ones" := ⟨He.noat_ok (c.out.fact 3 rfl)⟩
instance in_4 {K : PySem.W.Frag} [c : SaysC K] : HasCls K "Quick" := ⟨He.cls_ok (c.out.fact 4 rfl)⟩
instance in_5 {K : PySem.W.Frag} [c : SaysC K] : HasNo K "Quick" "held" := ⟨He.noat_ok (c.out.fact 5 rfl)⟩
instance in_6 {K : PySem.W.Frag} [c : SaysC K] : HasCls K "Run" := ⟨He.cls_ok (c.out.fact 6 rfl)⟩
instance in_7 {K : PySem.W.Frag} [c : SaysC K] : HasNo K "Run" "last" := ⟨He.noat_ok (c.out.fact 7 rfl)⟩
instance in_8 {K : PySem.W.Frag} [c : SaysC K] : HasNo K "Run" "length" := ⟨He.noat_ok (c.out.fact 8 rfl)⟩
instance in_9 {K : PySem.W.Frag} [c : SaysC K] : HasCls K "Book" := ⟨He.cls_ok (c.out.fact 9 rfl)⟩
instance in_10 {K : PySem.W.Frag} [c : SaysC K] : HasNo K "Book" "look" := ⟨He.noat_ok (c.out.fact 10 rfl)⟩
instance in_11 {K : PySem.W.Frag} [c : SaysC K] : HasNo K "Book" "slots" := ⟨He.noat_ok (c.out.fact 11 rfl)⟩
instance in_12 {K : PySem.W.Frag} [c : SaysC K] : HasCls K "Mixer" := ⟨He.cls_ok (c.out.fact 12 rfl)⟩
instance in_13 {K : PySem.W.Frag} [c : SaysC K] : HasNo K "Mixer" "shares" := ⟨He.noat_ok (c.out.fact 13 rfl)⟩
instance in_14 {K : PySem.W.Frag} [c : SaysC K] : HasCls K "Foreteller" := ⟨He.cls_ok (c.out.fact 14 rfl)⟩
instance in_15 {K : PySem.W.Frag} [c : SaysC K] : HasNo K "Foreteller" "kinds" := ⟨He.noat_ok (c.out.fact 15 rfl)⟩
instance in_16 {K : PySem.W.Frag} [c : SaysC K] : HasNo K "Foreteller" "books" := ⟨He.noat_ok (c.out.fact 16 rfl)⟩
instance in_17 {K : PySem.W.Frag} [c : SaysC K] : HasNo K "Foreteller" "mixer" := ⟨He.noat_ok (c.out.fact 17 rfl)⟩
instance in_18 {K : PySem.W.Frag} [c : SaysC K] : HasNo K "Foreteller" "ended" := ⟨He.noat_ok (c.out.fact 18 rfl)⟩
instance in_19 {K : PySem.W.Frag} [c : SaysC K] : HasNo K "Foreteller" "place" := ⟨He.noat_ok (c.out.fact 19 rfl)⟩
instance in_20 {K : PySem.W.Frag} [c : SaysC K] : HasNo K "Foreteller" "past" := ⟨He.noat_ok (c.out.fact 20 rfl)⟩
instance in_21 {K : PySem.W.Frag} [c : SaysC K] : HasTup K "KINDS" [.str "even", .str "quick", .str "run"] := tup_ok (c.out.ext 0 rfl)
def hk : PySem.W.Hook := hookX 6 fa fn xf
def ob (s : PySem.W.SharedT) : AlX := obsXG 6 fa fn xf (HandSHeadRun.getT s)
theorem ob_eq (s : PySem.W.SharedT) : ob s = hk.obs s.abs := obsXG_eq (HandSHeadRun.getT_eq s)
def loose : List Str := (["_wall", "ForetellError", "NoLooks", "NoChance", "NoBit", "ONE", "LEAST", "is_whole", "is_bit", "is_chance", "checked_bit", "checked_chance", "gives", "MOST_COUNTED", "Slot"] : List Str) ++ (["Even", "Quick", "Run", "slot_of", "KINDS", "MOST_LOOKS", "MOST_PLACES", "FARTHEST", "NO_SIGN", "are_places", "is_look", "checked_looks", "context_of", "Book", "FIRST"] : List Str) ++ (["FIGURES", "KEPT", "Mixer", "Foreteller", "_law_cell_at", "_law_look", "_law_looks", "_law_sign", "_law_text", "_law_bits", "_law_learnt", "_law_context", "_law_slots", "_law_mixed", "_law_seen"] : List Str)
theorem runA (w : World) : RunA W_.row (PySem.W.view W_.row.prog [52]) 9480 loose w := by
  intro os
  kernel_rfl
theorem runB (w : World) : RunF W_.row 9480 faA fnA xfA w := by
  intro os
  kernel_rfl
theorem runC (w : World) : RunF W_.row 9480 faB fnB xfB w := by
  intro os
  kernel_rfl
theorem run (w : World) : HandSHeadRun.RunEq W_.row (PySem.W.view W_.row.prog [52]) hk ob 9480 loose w := run_join (runA w) (runB w) (runC w)
end Fo
section
open PySem PySem.W PySem.Calls PyProof.Rows
theorem Fo.early (h : Fo.W_.row.wellSaid = true → Fo.W_.row.Holds) : PySem.Challenge.rw_foretell_k25_texts_behind_one_another.Holds := by
  w_on; o_law
  exact h (by assumption)
end
namespace Fo
open PySem PySem.Spec PyProof.Rows L2
local macro_rules
  | `(tactic| walk_at "rfl!") => `(tactic| exact rfl)
local macro_rules
  | `(tactic| walk_at "lk0") => `(tactic| first
    | with_reducible assumption
    | (with_reducible refine' lkF ?a ?b; (case a => with_reducible assumption); (case b => walk_at "sm")))
  | `(tactic| walk_at "ne") => `(tactic| first
    | with_reducible assumption
    | (with_reducible refine' Ne.symm ?a; (case a => with_reducible assumption))
    | (with_reducible refine' ne_of_noneF ?a ?b; (case a => with_reducible assumption); (case b => walk_at "lk0"))
    | (with_reducible refine' Ne.symm (ne_of_noneF ?a ?b); (case a => with_reducible assumption); (case b => walk_at "lk0")))
  | `(tactic| walk_at "nm") => `(tactic| first
    | with_reducible assumption
    | exact id
    | (with_reducible show ¬ (_ = _); walk_at "ne")
    | (with_reducible show ¬ (_ ∨ _); refine' not_or.mpr (And.intro ?a ?b); (case a => walk_at "nm"); (case b => walk_at "nm")))
  | `(tactic| walk_at "lk") => `(tactic| first
    | with_reducible assumption
    | with_reducible exact upd_same
    | (with_reducible refine' lkF ?a ?b; (case a => with_reducible assumption); (case b => walk_at "sm"))
    | (with_reducible refine' SameX.lk ?a ?b ?c; (case a => with_reducible assumption); (case b => walk_at "nm"); (case c => walk_at "lk"))
    | (with_reducible refine' lk_newF ?a ?b; (case a => with_reducible assumption); (case b => walk_at "lk"))
    | (with_reducible refine' lk_mut ?a ?b; (case a => walk_at "ne"); (case b => walk_at "lk")))
  | `(tactic| walk_at "sq") => `(tactic| first
    | with_reducible assumption
    | with_reducible exact sq_of upd_same
    | (with_reducible refine' sq_of ?a; (case a => with_reducible assumption))
    | (with_reducible refine' sqF ?a ?b; (case a => with_reducible assumption); (case b => walk_at "sm"))
    | (with_reducible refine' sqLF ?a ?b; (case a => with_reducible assumption); (case b => walk_at "sm"))
    | (with_reducible refine' SameX.seq ?a ?b ?c; (case a => with_reducible assumption); (case b => walk_at "nm"); (case c => walk_at "sq"))
    | (with_reducible refine' sq_newF ?a ?b; (case a => with_reducible assumption); (case b => walk_at "sq"))
    | (with_reducible refine' sq_of ?a; (case a => walk_at "lk")))
  | `(tactic| walk_at "tq") => `(tactic| first
    | with_reducible assumption
    | with_reducible exact stt_of upd_same
    | (with_reducible refine' stt_of ?a; (case a => with_reducible assumption))
    | (with_reducible refine' tqF ?a ?b; (case a => with_reducible assumption); (case b => walk_at "sm"))
    | (with_reducible refine' tqLF ?a ?b; (case a => with_reducible assumption); (case b => walk_at "sm"))
    | (with_reducible refine' SameX.tup ?a ?b ?c; (case a => with_reducible assumption); (case b => walk_at "nm"); (case c => walk_at "tq"))
    | (with_reducible refine' st_newF ?a ?b; (case a => with_reducible assumption); (case b => walk_at "tq"))
    | (with_reducible refine' stt_of ?a; (case a => walk_at "lk")))
  | `(tactic| walk_at "sm") => `(tactic| first
    | with_reducible assumption
    | with_reducible exact L2.Same.refl _
    | (with_reducible refine' same_newF ?a ?b; (case a => with_reducible assumption); (case b => walk_at "sm"))
    | (with_reducible refine' same_mutF ?a ?b; (case a => with_reducible assumption); (case b => walk_at "sm"))
    | (with_reducible refine' same_transF ?a ?b; (case a => with_reducible assumption); (case b => walk_at "sm")))
  | `(tactic| walk_at "pf") => `(tactic| first
    | exact putF_hit
    | exact putF_nil
    | exact putF_far (by decide) (by walk_at "pf"))
  | `(tactic| walk_at "ix") => `(tactic| first
    | with_reducible assumption
    | (simp only [at0, at1, at2, at3]; exact rfl))
  | `(tactic| walk_at "sz1") => `(tactic| first
    | decide
    | (simp only [List.length_cons, List.length_nil]; decide))
  | `(tactic| walk_at "sz") => `(tactic| first
    | with_reducible assumption
    | (refine Nat.le_trans (m := 1000000) ?_ (by decide); (try simp only [List.length_append, List.length_map, List.length_cons, List.length_nil, List.length_replicate, List.length_reverse, List.length_take, List.length_drop, List.length_set]); omega))
local macro_rules
  | `(tactic| walk_at "m64") => `(tactic| first
    | exact Or.inr ⟨by decide, by decide⟩
    | exact Or.inl ⟨by decide, by decide⟩
    | exact Or.inr ⟨by omega, by omega⟩
    | exact Or.inl ⟨by omega, by omega⟩)
local macro_rules
  | `(tactic| walk_at "go1") => `(tactic| first
    | ((with_reducible refine' g_var ?h ?_); (case h => exact rfl))
    | with_reducible refine g_c ?_
    | with_reducible refine g_op ?_
    | with_reducible refine g_cons ?_
    | with_reducible refine g_nil ?_
    | with_reducible refine g_cb ?_
    | with_reducible refine g_plus ?_
    | with_reducible refine g_minus ?_
    | ((with_reducible refine' g_rest ?h ?_); (case h => decide))
    | ((with_reducible refine' g_mul ?h ?_); (case h => walk_at "m64"))
    | with_reducible refine g_lt ?_
    | with_reducible refine g_le ?_
    | with_reducible refine g_gt ?_
    | with_reducible refine g_ge ?_
    | with_reducible refine g_same ?_
    | with_reducible refine g_diff ?_
    | with_reducible refine g_sameS ?_
    | with_reducible refine g_diffS ?_
    | with_reducible refine g_test ?_
    | with_reducible refine g_ebl ?_
    | with_reducible refine g_eint ?_
    | with_reducible refine g_tru ?_
    | with_reducible refine g_truB ?_
    | with_reducible refine g_seq ?_
    | with_reducible refine g_next ?_
    | with_reducible refine g_asg ?_
    | with_reducible refine g_asgT ?_
    | with_reducible refine g_gcons ?_
    | with_reducible refine g_gname ?_
    | with_reducible refine g_gnil ?_
    | with_reducible refine g_gsub ?_
    | ((with_reducible refine' g_gtup ?h ?i ?_); (case h => walk_at "tq"); (case i => exact rfl))
    | with_reducible refine g_p15 ?_
    | with_reducible refine g_p30 ?_
    | with_reducible refine g_sh15 ?_
    | with_reducible refine g_sh16 ?_
    | with_reducible refine g_sh23 ?_
    | with_reducible refine g_sh24 ?_
    | with_reducible refine g_sh40 ?_
    | with_reducible refine g_sh48 ?_
    | with_reducible refine g_p60 ?_
    | ((with_reducible refine' g_floor ?h ?_); (case h => exact ⟨by decide, by decide⟩))
    | ((with_reducible refine' g_asgn ?h ?_); (case h => repeat (first | exact SetR.zero | apply SetR.succ)))
    | with_reducible refine g_if ?_
    | with_reducible refine g_ret ?_
    | with_reducible refine g_retN ?_
    | with_reducible refine g_drop ?_
    | with_reducible refine g_and ?_
    | with_reducible refine g_or ?_
    | with_reducible refine g_not ?_
    | with_reducible refine g_andV ?_
    | with_reducible refine g_orV ?_
    | with_reducible refine g_notV ?_
    | with_reducible refine g_ifT ?_
    | with_reducible refine g_ifF ?_
    | with_reducible refine g_ifNT ?_
    | with_reducible refine g_ifNF ?_
    | with_reducible refine g_fun ?_
    | with_reducible refine g_new ?_
    | with_reducible refine g_on1 ?_
    | with_reducible refine g_on2 ?_
    | with_reducible refine g_on3 ?_
    | with_reducible refine g_on4 ?_
    | with_reducible refine g_on31 ?_
    | with_reducible refine g_on42 ?_
    | with_reducible refine g_on41 ?_
    | with_reducible refine g_bm ?_
    | with_reducible refine g_m1 ?_
    | with_reducible refine g_k1 ?_
    | with_reducible refine g_m2 ?_
    | with_reducible refine g_k2 ?_
    | with_reducible refine g_m3 ?_
    | with_reducible refine g_k3 ?_
    | with_reducible refine g_m4 ?_
    | with_reducible refine g_k4 ?_
    | with_reducible refine g_m5 ?_
    | with_reducible refine g_k5 ?_
    | with_reducible refine g_bm0 ?_
    | with_reducible refine g_fld ?_
    | with_reducible refine g_sto ?_
    | ((with_reducible refine' g_aug ?h ?_); (case h => exact rfl))
    | with_reducible refine g_ip ?_
    | with_reducible refine g_lst ?_
    | with_reducible refine g_tup ?_
    | ((with_reducible refine' g_lstK ?h ?_); (case h => walk_at "sz"))
    | ((with_reducible refine' g_tupK ?h ?_); (case h => walk_at "sz"))
    | with_reducible refine g_un ?_
    | with_reducible refine g_forL ?_
    | with_reducible refine g_forT ?_
    | with_reducible refine g_forR1 ?_
    | with_reducible refine g_forR2 ?_
    | with_reducible refine g_forE ?_
    | with_reducible refine g_forZ ?_
    | with_reducible refine g_lcZ ?_
    | with_reducible refine g_forR3 ?_
    | with_reducible refine g_lcR3 ?_
    | with_reducible refine g_mask1 ?_
    | with_reducible refine g_bitand ?_
    | with_reducible refine g_lcX ?_
    | with_reducible refine g_lcL ?_
    | with_reducible refine g_lcT ?_
    | with_reducible refine g_lcR1 ?_
    | with_reducible refine g_lcR2 ?_
    | with_reducible refine g_new0 ?_
    | with_reducible refine g_neg ?_
    | with_reducible refine g_sl ?_
    | with_reducible refine g_part ?_
    | with_reducible refine g_nopart ?_
    | with_reducible refine g_chain ?_
    | with_reducible refine g_rz ?_
    | with_reducible refine g_isno ?_
    | with_reducible refine g_notno ?_
    | with_reducible refine g_max2 ?_
    | with_reducible refine g_min2 ?_
    | with_reducible refine g_intI ?_
    | with_reducible refine g_intB ?_
    | with_reducible refine g_bits ?_
    | with_reducible refine g_B ?_
    | with_reducible refine g_dget ?_
    | with_reducible refine g_din ?_
    | with_reducible refine g_dnotin ?_
    | with_reducible refine g_mthd ?_
    | with_reducible refine g_fldaug ?_
    | with_reducible refine g_iadd ?_
    | with_reducible refine g_isub ?_
    | with_reducible refine g_whK ?_
    | ((with_reducible refine' g_fldA ?h ?i ?c ?o ?_); (case h => walk_at "lk"); (case i => exact rfl); (case c => infer_instance); (case o => infer_instance))
    | ((with_reducible refine' g_stoU ?i ?e ?c ?o ?_); (case i => walk_at "sz1"); (case e => walk_at "pf"); (case c => infer_instance); (case o => infer_instance))
    | ((with_reducible refine' g_stoA ?h ?i ?e ?c ?o ?_); (case h => walk_at "lk"); (case i => walk_at "sz1"); (case e => walk_at "pf"); (case c => infer_instance); (case o => infer_instance))
    | ((with_reducible refine' g_augA ?h ?i ?c ?o ?_); (case h => walk_at "lk"); (case i => exact rfl); (case c => infer_instance); (case o => infer_instance))
    | ((with_reducible refine' g_putU ?i ?e ?_); (case i => walk_at "sz1"); (case e => walk_at "pf"))
    | ((with_reducible refine' g_putA ?h ?i ?e ?_); (case h => walk_at "lk"); (case i => walk_at "sz1"); (case e => walk_at "pf"))
    | ((with_reducible refine' g_one ?h ?i ?_); (case h => walk_at "lk"); (case i => exact rfl))
    | ((with_reducible refine' g_ixL ?h ?i ?_); (case h => walk_at "sq"); (case i => walk_at "ix"))
    | ((with_reducible refine' g_ixT ?h ?i ?_); (case h => walk_at "tq"); (case i => walk_at "ix"))
    | ((with_reducible refine' g_tyL ?h ?_); (case h => walk_at "sq"))
    | with_reducible refine g_tyS ?_
    | ((with_reducible refine' g_lenL ?h ?_); (case h => walk_at "sq"))
    | ((with_reducible refine' g_lenT ?h ?_); (case h => walk_at "tq"))
    | ((with_reducible refine' g_listL ?h ?_); (case h => walk_at "sq"))
    | ((with_reducible refine' g_listT ?h ?_); (case h => walk_at "tq"))
    | ((with_reducible refine' g_tupleL ?h ?_); (case h => walk_at "sq"))
    | ((with_reducible refine' g_slL ?h ?_); (case h => walk_at "sq"))
    | ((with_reducible refine' g_append ?h ?i ?_); (case h => walk_at "lk"); (case i => walk_at "sz"))
    | ((with_reducible refine' g_reverse ?h ?_); (case h => walk_at "lk"))
    | ((with_reducible refine' g_clear ?h ?_); (case h => walk_at "lk"))
    | ((with_reducible refine' g_cat ?h ?i ?j ?_); (case h => walk_at "lk"); (case i => walk_at "lk"); (case j => walk_at "sz")))
local macro_rules
  | `(tactic| walk_at "go") => `(tactic| repeat walk_at "go1")
local macro_rules
  | `(tactic| walk_at "gs1") => `(tactic| first
    | ((with_reducible refine' g_slTo ?h ?_); (case h => walk_at "sq"))
    | ((with_reducible refine' g_slFrom ?h ?_); (case h => walk_at "sq"))
    | ((with_reducible refine' g_slBut ?h ?_); (case h => walk_at "sq"))
    | ((with_reducible refine' g_slMid ?h ?_); (case h => walk_at "sq"))
    | ((with_reducible refine' g_catM ?h ?i ?j ?_); (case h => walk_at "lk"); (case i => walk_at "lk"); (case j => walk_at "sz"))
    | with_reducible refine g_lst1 ?_
    | with_reducible refine g_lst2 ?_
    | ((with_reducible refine' g_rep1 ?h ?i ?_); (case h => walk_at "lk"); (case i => omega))
    | ((with_reducible refine' g_appI ?h ?i ?_); (case h => walk_at "lk"); (case i => walk_at "sz"))
    | walk_at "go1"
    | (with_reducible refine fun (p : Addr) (np : (_ : Hp) p = none) => ?_)
    | ((with_reducible refine' difY ?h ?_); (case h => first | rfl | omega))
    | ((with_reducible refine' difX ?h ?_); (case h => omega))
    | ((with_reducible refine' difNY ?h ?_); (case h => first | rfl | omega))
    | ((with_reducible refine' difNX ?h ?_); (case h => omega)))
local macro_rules
  | `(tactic| walk_at "gn") => `(tactic| repeat walk_at "gs1")
/-! numbers: a cell of the script; what is whole, a bit, a chance, a sign -/
def cell (ns : List Int) (k : Nat) : Int := ns.getD k 0
theorem ix_ints {ns : List Int} {k : Nat} (h : k < ns.length) : atI (ns.map V.int) (k : Int) = some (.int (ns.getD k 0)) := by
  refine atI_nat ?_
  rw [List.getElem?_map, List.getElem?_eq_getElem h, List.getD_eq_getElem?_getD, List.getElem?_eq_getElem h]
  rfl
def F_Lcell_at (K : PySem.W.Frag) : V → V → Hp → VK → XK → Prop := fun x y H Q _ => ∃ (a : Addr) (ns : List Int) (k : Nat), x = .ref a ∧ y = .int k ∧ SqL K H a (ns.map V.int) ∧ Q (.int (cell ns k % 1000000000000000000000000000000)) H
abbrev sp_Lcell_at (K : PySem.W.Frag) : Sp := on2 (F_Lcell_at K)
def t_Lcell_at (K : PySem.W.Frag) (E : XK) : TS :=
  tSeq (tIfS (tTest (tOp (iLt) (tVar 1) (tCB (rLength K) (tCons (tVar 0) (tNil))))) (tRet (tOp (rRest) (tOp (rIx K) (tVar 0) (tVar 1)) (tOp (rPow) (tC (.int 10)) (tC (.int 30))))) (tNext))
  (tRet (tC (.int 0)))
theorem pure_Lcell_at (K : PySem.W.Frag) {x y : V} {H : Hp} {Q : VK} {E : XK} (h : F_Lcell_at K x y H Q E) : t_Lcell_at K E ⟨fun _ H' => Q .non H', Q, fun _ _ => False, fun _ _ => False⟩ [some x, some y] H := by
  refine Bx.out ?_
  simp (disch := with_unfolding_all
  obtain ⟨a, ns, k, rfl, rfl, hs, q⟩ := h
  unfold t_Lcell_at
  walk_at "go"
  rw [List.length_map]
  refine dif (fun h => ?_) (fun h => ?_)
  · walk_at "go"
    refine g_ixL hs (ix_ints (by omega)) ?_
    walk_at "go"
    exact q
  · walk_at "go"
    have e : cell ns k = 0 := by
      unfold cell
      rw [List.getD_eq_getElem?_getD, List.getElem?_eq_none (by omega)]
      rfl
    rw [e] at q
    exact q
  ) only [↓Bx.eq]
/-- an int, and no truth -/
def wholeV : V → Bool
  | .int _ => true
  | _ => false
def TyW (K : PySem.W.Frag) (H : Hp) (x : V) : Prop := (∃ i, x = .int i) ∨ (∃ b, x = .bl b) ∨ (wholeV x = false ∧ ∃ tn, TyX K H x (.type tn) ∧ kitB tn "int" = some false)
def F_Lwhole (K : PySem.W.Frag) : V → Hp → VK → XK → Prop := fun x H Q _ => TyW K H x ∧ Q (.bl (wholeV x)) H
abbrev sp_Lwhole (K : PySem.W.Frag) : Sp := on1 (F_Lwhole K)
abbrev F_is_whole (K : PySem.W.Frag) : V → Hp → VK → XK → Prop := F_Lwhole K
abbrev sp_is_whole (K : PySem.W.Frag) : Sp := on1 (F_is_whole K)
def t_is_whole (K : PySem.W.Frag) (E : XK) : TS :=
  tRet (tAndV (tCB (rIsi2 K) (tCons (tVar 0) (tCons (tC (.ty "int")) (tNil)))) (tNotV (tCB (rIsi2 K) (tCons (tVar 0) (tCons (tC (.ty "bool")) (tNil))))))
theorem pure_is_whole (K : PySem.W.Frag) {x : V} {H : Hp} {Q : VK} {E : XK} (h : F_is_whole K x H Q E) : t_is_whole K E ⟨fun _ H' => Q .non H', Q, fun _ _ => False, fun _ _ => False⟩ [some x] H := by
  refine Bx.out ?_
  simp (disch := with_unfolding_all
  obtain ⟨ty, q⟩ := h
  unfold t_is_whole
  walk_at "go"
  rcases ty with ⟨i, rfl⟩ | ⟨b, rfl⟩ | ⟨e, tn, ty, hk⟩
  · refine g_isi (s := "") (tn := "int") (.base (.int i)) (b := true) (by decide +kernel) ?_
    walk_at "go"
    refine g_isi (s := "") (tn := "int") (.base (.int i)) (b := false) (by decide +kernel) ?_
    walk_at "go"
    exact q
  · refine g_isi (s := "") (tn := "bool") (.base (.bl b)) (b := true) (by decide +kernel) ?_
    walk_at "go"
    refine g_isi (s := "") (tn := "bool") (.base (.bl b)) (b := true) (by decide +kernel) ?_
    walk_at "go"
    exact q
  · refine g_isi (s := "") ty hk ?_
    walk_at "go"
    rw [e] at q
    exact q
  ) only [↓Bx.eq]
/-- from a to b -/
def btw (a b : Int) : V → Bool
  | .int i => decide (a ≤ i) && decide (i ≤ b)
  | _ => false
theorem TyW.cases {K : PySem.W.Frag} {H : Hp} {x : V} (h : TyW K H x) : (∃ i, x = .int i) ∨ (wholeV x = false ∧ ∀ a b, btw a b x = false) := by
  rcases h with h | ⟨b, rfl⟩ | ⟨e, _⟩
  · exact .inl h
  · exact .inr ⟨rfl, fun _ _ => rfl⟩
  · refine .inr ⟨e, fun a b => ?_⟩
    cases x with
    | int i => cases e
    | _ => rfl
theorem TyW.int {K : PySem.W.Frag} {H : Hp} {i : Int} : TyW K H (.int i) := .inl ⟨i, rfl⟩
theorem TyW.same {K : PySem.W.Frag} {H H1 : Hp} {x : V} (s : ∀ tn, TyX K H x (.type tn) → TyX K H1 x (.type tn)) (h : TyW K H x) : TyW K H1 x := by
  rcases h with h | h | ⟨e, tn, t, k⟩
  · exact .inl h
  · exact .inr (.inl h)
  · exact .inr (.inr ⟨e, tn, s tn t, k⟩)
theorem btw_int {a b : Int} {x : V} (h : btw a b x = true) : ∃ i, x = .int i ∧ a ≤ i ∧ i ≤ b := by
  cases x with
  | int i =>
    rw [btw, Bool.and_eq_true, decide_eq_true_iff, decide_eq_true_iff] at h
    exact ⟨i, rfl, h⟩
  | _ => cases h
theorem tyx_same {K : PySem.W.Frag} {H H1 : Hp} {x : V} {t : Value} (s : Same H H1) (h : TyX K H x t) : TyX K H1 x t := by
  cases h with
  | base h =>
    refine .base ?_
    cases h with
    | non => exact .non
    | bl x => exact .bl x
    | int i => exact .int i
    | str x => exact .str x
    | flt x => exact .flt x
    | lst e => exact .lst (s _ _ e)
    | frz e => exact .frz (s _ _ e)
    | tup e => exact .tup (s _ _ e)
    | dK e => exact .dK (s _ _ e)
    | dT e => exact .dT (s _ _ e)
    | ins e c a b d m => exact .ins (s _ _ e) c a b d m
  | byt b => exact .byt b
  | set e => exact .set (s _ _ e)
  | kList e c => exact .kList e c
  | kTuple e c => exact .kTuple e c
  | kDict e c => exact .kDict e c
  | fTuple e => exact .fTuple (s _ _ e)
  | fDict e => exact .fDict (s _ _ e)
theorem tyw_same {K : PySem.W.Frag} {H H1 : Hp} {x : V} (s : Same H H1) (h : TyW K H x) : TyW K H1 x := h.same fun _ => tyx_same s
theorem ifB {A B : Prop} {b : Bool} (h1 : b = true → A) (h2 : b = false → B) : if b = true then A else B := difB h1 h2
def F_btw (K : PySem.W.Frag) (a b : Int) : V → Hp → VK → XK → Prop := fun x H Q _ => TyW K H x ∧ Q (.bl (btw a b x)) H
abbrev sp_is_bit (K : PySem.W.Frag) : Sp := on1 (F_btw K 0 1)
abbrev sp_is_chance (K : PySem.W.Frag) : Sp := on1 (F_btw K 32768 16744448)
def t_is_bit (K : PySem.W.Frag) (E : XK) : TS :=
  tRet (tAndV (tFun (sp_is_whole K) [] (fun _ => E) (tCons (tVar 0) (tNil))) (tChain (rLe) (rLe) (tC (.int 0)) (tVar 0) (tC (.int 1))))
theorem pure_is_bit (K : PySem.W.Frag) {x : V} {H : Hp} {Q : VK} {E : XK} (h : F_btw K 0 1 x H Q E) : t_is_bit K E ⟨fun _ H' => Q .non H', Q, fun _ _ => False, fun _ _ => False⟩ [some x] H := by
  refine Bx.out ?_
  simp (disch := with_unfolding_all
  obtain ⟨ty, q⟩ := h
  unfold t_is_bit
  walk_at "go"
  refine ⟨ty, ?_⟩
  rcases ty.cases with ⟨i, rfl⟩ | ⟨e1, e2⟩
  · walk_at "go"
    refine g_ifT ?_
    walk_at "go"
    refine dif (fun h => ?_) fun h => ?_
    · walk_at "go"
      rwa [btw, decide_eq_true h, Bool.true_and] at q
    · rwa [btw, decide_eq_false h, Bool.false_and] at q
  · rw [e1]
    rw [e2] at q
    walk_at "go"
    exact q
  ) only [↓Bx.eq]
def t_is_chance (K : PySem.W.Frag) (E : XK) : TS :=
  tRet (tAndV (tFun (sp_is_whole K) [] (fun _ => E) (tCons (tVar 0) (tNil))) (tChain (rLe) (rLe) (tC (.int 32768)) (tVar 0) (tOp (rMinus) (tC (.int 16777216)) (tC (.int 32768)))))
theorem pure_is_chance (K : PySem.W.Frag) {x : V} {H : Hp} {Q : VK} {E : XK} (h : F_btw K 32768 16744448 x H Q E) : t_is_chance K E ⟨fun _ H' => Q .non H', Q, fun _ _ => False, fun _ _ => False⟩ [some x] H := by
  refine Bx.out ?_
  simp (disch := with_unfolding_all
  obtain ⟨ty, q⟩ := h
  unfold t_is_chance
  walk_at "go"
  refine ⟨ty, ?_⟩
  rcases ty.cases with ⟨i, rfl⟩ | ⟨e1, e2⟩
  · walk_at "go"
    refine g_ifT ?_
    walk_at "go"
    refine dif (fun h => ?_) fun h => ?_
    · walk_at "go"
      rwa [btw, decide_eq_true h, Bool.true_and] at q
    · rwa [btw, decide_eq_false h, Bool.false_and] at q
  · rw [e1]
    rw [e2] at q
    walk_at "go"
    exact q
  ) only [↓Bx.eq]
abbrev sp_is_sign (K : PySem.W.Frag) : Sp := on1 (F_btw K 0 255)
/-- what a check hands on, what it refuses -/
def F_chk (K : PySem.W.Frag) (a b : Int) (C : Str) : V → Hp → VK → XK → Prop := fun x H Q E => TyW K H x ∧ (btw a b x = true → Q x H) ∧ (btw a b x = false → E (.ref (He.ga K C)) none H)
abbrev sp_checked_bit (K : PySem.W.Frag) : Sp := on1 (F_chk K 0 1 "NoBit")
abbrev sp_checked_chance (K : PySem.W.Frag) : Sp := on1 (F_chk K 32768 16744448 "NoChance")
theorem chk_int {K : PySem.W.Frag} {a b i : Int} {C : Str} {H : Hp} {Q : VK} {E : XK} (h : a ≤ i ∧ i ≤ b) (q : Q (.int i) H) : F_chk K a b C (.int i) H Q E :=
  ⟨.int, fun _ => q, fun e => by rw [btw, decide_eq_true h.1, decide_eq_true h.2] at e; cases e⟩
def t_checked_bit (K : PySem.W.Frag) (E : XK) : TS :=
  tSeq (tIfS (tNot (tTru K (tFun (sp_is_bit K) [] (fun _ => E) (tCons (tVar 0) (tNil))))) (tRz (fun cls d _ H => E cls d H) (He.ga K "NoBit")) (tNext))
  (tRet (tVar 0))
theorem pure_checked_bit (K : PySem.W.Frag) {x : V} {H : Hp} {Q : VK} {E : XK} (h : F_chk K 0 1 "NoBit" x H Q E) : t_checked_bit K E ⟨fun _ H' => Q .non H', Q, fun _ _ => False, fun _ _ => False⟩ [some x] H := by
  refine Bx.out ?_
  simp (disch := with_unfolding_all
  obtain ⟨ty, q, r⟩ := h
  unfold t_checked_bit
  walk_at "go"
  refine ⟨ty, ?_⟩
  walk_at "go"
  refine difNB (fun h => ?_) fun h => ?_
  · walk_at "go"
    exact r h
  · walk_at "go"
    exact q h
  ) only [↓Bx.eq]
def t_checked_chance (K : PySem.W.Frag) (E : XK) : TS :=
  tSeq (tIfS (tNot (tTru K (tFun (sp_is_chance K) [] (fun _ => E) (tCons (tVar 0) (tNil))))) (tRz (fun cls d _ H => E cls d H) (He.ga K "NoChance")) (tNext))
  (tRet (tVar 0))
theorem pure_checked_chance (K : PySem.W.Frag) {x : V} {H : Hp} {Q : VK} {E : XK} (h : F_chk K 32768 16744448 "NoChance" x H Q E) : t_checked_chance K E ⟨fun _ H' => Q .non H', Q, fun _ _ => False, fun _ _ => False⟩ [some x] H := by
  refine Bx.out ?_
  simp (disch := with_unfolding_all
  obtain ⟨ty, q, r⟩ := h
  unfold t_checked_chance
  walk_at "go"
  refine ⟨ty, ?_⟩
  walk_at "go"
  refine difNB (fun h => ?_) fun h => ?_
  · walk_at "go"
    exact r h
  · walk_at "go"
    exact q h
  ) only [↓Bx.eq]
def gave (c b : Int) : Int := if b = 1 then c else 16777216 - c
def F_gives (K : PySem.W.Frag) : V → V → Hp → VK → XK → Prop := fun x y H Q E => TyW K H x ∧ TyW K H y ∧ (btw 32768 16744448 x = false → E (.ref (He.ga K "NoChance")) none H) ∧ (btw 32768 16744448 x = true → btw 0 1 y = false → E (.ref (He.ga K "NoBit")) none H) ∧
  (∀ c b : Int, x = .int c → y = .int b → 32768 ≤ c → c ≤ 16744448 → 0 ≤ b → b ≤ 1 → Q (.int (gave c b)) H)
abbrev sp_gives (K : PySem.W.Frag) : Sp := on2 (F_gives K)
theorem gives_of {K : PySem.W.Frag} {H : Hp} {Q : VK} {E : XK} {c b : Int} (hc : 32768 ≤ c ∧ c ≤ 16744448) (hb : 0 ≤ b ∧ b ≤ 1) (q : Q (.int (gave c b)) H) : F_gives K (.int c) (.int b) H Q E := by
  have bt : ∀ {u v i : Int}, u ≤ i ∧ i ≤ v → btw u v (.int i) = true := fun h => by rw [btw, decide_eq_true h.1, decide_eq_true h.2]; rfl
  refine ⟨.int, .int, fun k => ?_, fun _ k => ?_, fun c' b' e1 e2 _ _ _ _ => ?_⟩
  · rw [bt hc] at k; cases k
  · rw [bt hb] at k; cases k
  · cases e1
    cases e2
    exact q
def t_gives (K : PySem.W.Frag) (E : XK) : TS :=
  tSeq (tAsg (tFun (sp_checked_chance K) [] (fun _ => E) (tCons (tVar 0) (tNil))) (gName 2))
  (tSeq (tIfS (tTest (tOp (rSame K) (tFun (sp_checked_bit K) [] (fun _ => E) (tCons (tVar 1) (tNil))) (tC (.int 1)))) (tRet (tVar 2)) (tNext))
  (tRet (tOp (rMinus) (tC (.int 16777216)) (tVar 2))))
theorem pure_gives (K : PySem.W.Frag) {x y : V} {H : Hp} {Q : VK} {E : XK} (h : F_gives K x y H Q E) : t_gives K E ⟨fun _ H' => Q .non H', Q, fun _ _ => False, fun _ _ => False⟩ [some x, some y, none] H := by
  refine Bx.out ?_
  simp (disch := with_unfolding_all
  obtain ⟨tx, ty, r1, r2, q⟩ := h
  unfold t_gives
  walk_at "go"
  refine ⟨tx, fun hx => ?_, r1⟩
  walk_at "go"
  refine ⟨ty, fun hy => ?_, r2 hx⟩
  obtain ⟨c, rfl, c1, c2⟩ := btw_int hx
  obtain ⟨b, rfl, b1, b2⟩ := btw_int hy
  have q := q c b rfl rfl c1 c2 b1 b2
  unfold gave at q
  walk_at "go"
  refine dif (fun h => ?_) fun h => ?_
  · rw [if_pos h] at q
    walk_at "go"
    exact q
  · rw [if_neg h] at q
    walk_at "go"
    exact q
  ) only [↓Bx.eq]
/-! a step: a chance, a bit, of a cell -/
def stepC (n : Int) : Int :=
  let m := n % 1000000000000000
  if m / 2 % 7 < 3 then (if m / 2 % 7 = 0 then 32768 else if m / 2 % 7 = 1 then 16744448 else 8388608) else 32768 + ((m * m + 5 * m + 11) * 48271 % 2147483647) % 16711681
def stepB (n : Int) : Int := n % 1000000000000000 % 2
theorem stepC_ok (n : Int) : 32768 ≤ stepC n ∧ stepC n ≤ 16744448 := by
  unfold stepC
  simp only []
  split
  · split
    · decide
    · split <;> decide
  · omega
theorem stepB_ok (n : Int) : 0 ≤ stepB n ∧ stepB n ≤ 1 := by unfold stepB; omega
def F_Lstep (K : PySem.W.Frag) : V → Hp → VK → XK → Prop := fun x H Q _ => ∃ n : Int, x = .int n ∧ ∀ p H', H p = none → Same H H' → H' p = some (.tup [.int (stepC n), .int (stepB n)]) → Q (.ref p) H'
abbrev sp_Lstep (K : PySem.W.Frag) : Sp := on1 (F_Lstep K)/-! contexts of looks -/
/-- a look's places -/
structure Plc (ps : List Int) : Prop where
  len : ps.length ≤ 4
  all : ∀ z ∈ ps, 1 ≤ z ∧ z ≤ 8
  up : ps.Pairwise (· < ·)
/-! contexts -/
def ctxAt (ns : List Int) (z : Int) : Int := if z ≤ (ns.length : Int) then ns.getD (ns.length - z.toNat) 0 else 256
def ctx (ps ns : List Int) (node : Int) : List Int := ps.map (ctxAt ns) ++ [node]
theorem ix_far {ns : List Int} {z : Int} (h : 1 ≤ z) (h2 : z ≤ (ns.length : Int)) : atI (ns.map V.int) ((ns.length : Int) - z) = some (.int (ctxAt ns z)) := by
  have e : (ns.length : Int) - z = ((ns.length - z.toNat : Nat) : Int) := by omega
  rw [e, ix_ints (by omega)]
  unfold ctxAt
  rw [if_pos h2]
theorem ix_back {ns : List Int} {z : Int} (h : 1 ≤ z) (h2 : z ≤ (ns.length : Int)) : atI (ns.map V.int) (-z) = some (.int (ctxAt ns z)) := by
  have e := ix_far h h2
  unfold atI at e ⊢
  have k : ixN (ns.map V.int).length (-z) = ixN (ns.map V.int).length ((ns.length : Int) - z) := by
    rw [List.length_map]
    unfold ixN
    rw [if_neg (by omega), if_pos (by omega), if_pos (by omega), if_pos (by omega)]
    congr 2
    omega
  rw [k]
  exact e
/-- a look as it stands: its kind, its places -/
def LookAt (K : PySem.W.Frag) (H : Hp) (a : Addr) (kind : Str) (ps : List Int) : Prop := ∃ b, SqT K H a [.str kind, .ref b] ∧ SqT K H b (ps.map V.int) ∧ Plc ps
theorem LookAt.same {K : PySem.W.Frag} {H H1 : Hp} {a : Addr} {kind : Str} {ps : List Int} (s : Same H H1) (h : LookAt K H a kind ps) : LookAt K H1 a kind ps := by
  obtain ⟨b, h1, h2, p⟩ := h
  exact ⟨b, Fo.Same.tup s h1, Fo.Same.tup s h2, p⟩
def F_context_of (K : PySem.W.Frag) : V → V → V → Hp → VK → XK → Prop := fun x y z H Q _ => ∃ (a c : Addr) (kind : Str) (ps ns : List Int) (node : Int), x = .ref a ∧ y = .ref c ∧ z = .int node ∧ LookAt K H a kind ps ∧ SqL K H c (ns.map V.int) ∧
  ∀ p H', H p = none → Same H H' → H' p = some (.tup ((ctx ps ns node).map V.int)) → Q (.ref p) H'
abbrev sp_context_of (K : PySem.W.Frag) : Sp := on3 (F_context_of K)
theorem take_snoc {α : Type} {l : List α} {i : Nat} {x : α} (h : l[i]? = some x) : l.take (i + 1) = l.take i ++ [x] := by
  rw [List.take_add_one, h]
  rfl
def t_context_of (K : PySem.W.Frag) (E : XK) : TS :=
  tSeq (tAsg (tLst (tNil)) (gName 3))
  (tSeq (tFor (iTup K (tOp (rIx K) (tVar 0) (tC (.int 1)))) (gName 4) (tIfS (tTest (tOp (rLe) (tVar 4) (tCB (rLength K) (tCons (tVar 1) (tNil))))) (tDrop (tBM K "list" (rAppend) (tVar 3) (tCons (tOp (rIx K) (tVar 1) (tOp (rMinus) (tCB (rLength K) (tCons (tVar 1) (tNil))) (tVar 4))) (tNil)))) (tDrop (tBM K "list" (rAppend) (tVar 3) (tCons (tC (.int 256)) (tNil))))))
  (tRet (tCB (rTupleOf K) (tCons (tOp (rPlus K) (tVar 3) (tLst (tCons (tVar 2) (tNil)))) (tNil)))))
theorem pure_context_of (K : PySem.W.Frag) {x y z : V} {H : Hp} {Q : VK} {E : XK} (h : F_context_of K x y z H Q E) : t_context_of K E ⟨fun _ H' => Q .non H', Q, fun _ _ => False, fun _ _ => False⟩ [some x, some y, some z, none, none] H := by
  refine Bx.out ?_
  simp (disch := with_unfolding_all
  obtain ⟨a, c, kind, ps, ns, node, rfl, rfl, rfl, ⟨b, hl, hb, P⟩, hn, q⟩ := h
  unfold t_context_of
  walk_at "go"
  intro l nl
  walk_at "go"
  have s0 := same_new (u := .lst []) (Same.refl H) nl
  refine for_TI (st_new hb nl) (fun i σ H1 => ∃ v, σ = [some (.ref a), some (.ref c), some (.int node), some (.ref l), v] ∧ Same H H1 ∧ H1 l = some (.lst (((ps.take i).map (ctxAt ns)).map V.int))) ?_ ?_ ?_ ?_
  · exact ⟨_, rfl, s0, upd_same⟩
  · rintro i σ H1 ⟨v, rfl, s, e⟩
    exact Fo.Same.tup s hb
  · rintro i z σ H1 hz ⟨v, rfl, s, e⟩
    have hi : i < ps.length := (List.getElem?_eq_some_iff.mp hz).1
    have pl := P.len
    obtain ⟨z1, z8⟩ := P.all z (List.mem_of_getElem? hz)
    have nxt : ∀ w, w = ctxAt ns z → (((ps.take i).map (ctxAt ns)).map V.int ++ [V.int w]) = ((ps.take (i + 1)).map (ctxAt ns)).map V.int := fun w hw => by
      rw [take_snoc hz, hw, List.map_append, List.map_append]
      rfl
    walk_at "go"
    rw [List.length_map]
    refine dif (fun h1 => ?_) (fun h1 => ?_)
    · walk_at "go"
      rw [List.length_map]
      refine g_ixL (s.seq hn) (ix_far z1 h1) ?_
      walk_at "go"
      exact ⟨_, rfl, same_mut s nl, by rw [upd_same, nxt _ rfl]⟩
    · walk_at "go"
      exact ⟨_, rfl, same_mut s nl, by rw [upd_same, nxt]; unfold ctxAt; rw [if_neg h1]⟩
  · rintro σ H1 ⟨v, rfl, s, e⟩
    rw [List.take_length] at e
    have pl := P.len
    walk_at "go"
    intro m nm
    walk_at "go"
    intro r nr
    walk_at "go"
    intro p np
    have s2 : Same H (upd (upd H1 m (HO.lst [V.int node])) r (HO.lst (List.map V.int (List.map (ctxAt ns) ps) ++ [V.int node]))) := by walk_at "sm"
    exact q p _ (s2.free np) (by walk_at "sm") (by rw [upd_same]; unfold ctx; rw [List.map_append]; rfl)
  ) only [↓Bx.eq]
/-! looks: what is one, what are some -/
def kindOk (z : Str) : Bool := inV (.str z) [.str "even", .str "quick", .str "run"]
def rising : Int → List V → Bool
  | _, [] => true
  | last, v :: vs => btw (last + 1) 8 v && (match v with | .int i => rising i vs | _ => false)
inductive PlT (K : PySem.W.Frag) (H : Hp) : V → Bool → Prop
  | tup {a : Addr} {xs : List V} (e : H a = some (.tup xs)) (l : xs.length ≤ 1000000) (t : ∀ v ∈ xs, TyW K H v) : PlT K H (.ref a) (decide (xs.length ≤ 4) && rising 0 xs)
  | other {x : V} {tn : String} (t : TyX K H x (.type tn)) (k : kitB tn "tuple" = some false) : PlT K H x false
inductive LkT (K : PySem.W.Frag) (H : Hp) : V → Bool → Prop
  | pair {a : Addr} {z : Str} {p : V} {b : Bool} (e : H a = some (.tup [.str z, p])) (h : PlT K H p b) : LkT K H (.ref a) (kindOk z && b)
  | kind {a : Addr} {z : Str} {p : V} (e : H a = some (.tup [.str z, p])) (h : kindOk z = false) : LkT K H (.ref a) false
  | nostr {a : Addr} {x p : V} {tn : String} (e : H a = some (.tup [x, p])) (t : TyX K H x (.type tn)) (k : kitB tn "str" = some false) : LkT K H (.ref a) false
  | len {a : Addr} {xs : List V} (e : H a = some (.tup xs)) (l : xs.length ≠ 2) : LkT K H (.ref a) false
  | other {x : V} {tn : String} (t : TyX K H x (.type tn)) (k : kitB tn "tuple" = some false) : LkT K H x false
/-- whether x are looks -/
inductive LsT (K : PySem.W.Frag) (H : Hp) : V → Bool → Prop
  | lst {a : Addr} {xs : List V} {bs : List Bool} (e : H a = some (.lst xs)) (l : xs.length ≤ 1000000) (bl : bs.length = xs.length) (t : ∀ (i : Nat) v b, xs[i]? = some v → bs[i]? = some b → LkT K H v b) : LsT K H (.ref a) (decide (1 ≤ xs.length) && (decide (xs.length ≤ 6) && bs.all id))
  | other {x : V} {tn : String} (t : TyX K H x (.type tn)) (k : kitB tn "list" = some false) : LsT K H x false
theorem PlT.same {K : PySem.W.Frag} {H H1 : Hp} {x : V} {b : Bool} (h : PlT K H x b) (s : Same H H1) : PlT K H1 x b := by
  cases h with
  | tup e l t => exact .tup (s _ _ e) l fun v hv => tyw_same s (t v hv)
  | other t k => exact .other (tyx_same s t) k
theorem LkT.same {K : PySem.W.Frag} {H H1 : Hp} {x : V} {b : Bool} (h : LkT K H x b) (s : Same H H1) : LkT K H1 x b := by
  cases h with
  | pair e h => exact .pair (s _ _ e) (h.same s)
  | kind e h => exact .kind (s _ _ e) h
  | nostr e t k => exact .nostr (s _ _ e) (tyx_same s t) k
  | len e l => exact .len (s _ _ e) l
  | other t k => exact .other (tyx_same s t) k
theorem LsT.same {K : PySem.W.Frag} {H H1 : Hp} {x : V} {b : Bool} (h : LsT K H x b) (s : Same H H1) : LsT K H1 x b := by
  cases h with
  | lst e l bl t => exact .lst (s _ _ e) l bl fun i v b hv hb => (t i v b hv hb).same s
  | other t k => exact .other (tyx_same s t) k
def F_are_places (K : PySem.W.Frag) : V → Hp → VK → XK → Prop := fun x H Q _ => ∃ b : Bool, PlT K H x b ∧ Q (.bl b) H
abbrev sp_are_places (K : PySem.W.Frag) : Sp := on1 (F_are_places K)
def t_are_places (K : PySem.W.Frag) (E : XK) : TS :=
  tSeq (tIfS (tOr (tNot (tTru K (tCB (rIsi2 K) (tCons (tVar 0) (tCons (tC (.ty "tuple")) (tNil)))))) (tTest (tOp (iGt) (tCB (rLength K) (tCons (tVar 0) (tNil))) (tC (.int 4))))) (tRet (tC (.bl false))) (tNext))
  (tSeq (tAsg (tC (.int 0)) (gName 1))
  (tSeq (tFor (iTup K (tVar 0)) (gName 2) (tSeq (tIfS (tOr (tNot (tTru K (tFun (sp_is_whole K) [] (fun _ => E) (tCons (tVar 2) (tNil))))) (tNot (tTest (tChain (iLt) (rLe) (tVar 1) (tVar 2) (tC (.int 8)))))) (tRet (tC (.bl false))) (tNext))
  (tAsg (tVar 2) (gName 1))))
  (tRet (tC (.bl true)))))
theorem pure_are_places (K : PySem.W.Frag) {x : V} {H : Hp} {Q : VK} {E : XK} (h : F_are_places K x H Q E) : t_are_places K E ⟨fun _ H' => Q .non H', Q, fun _ _ => False, fun _ _ => False⟩ [some x, none, none] H := by
  refine Bx.out ?_
  simp (disch := with_unfolding_all
  obtain ⟨b, P, q⟩ := h
  unfold t_are_places
  walk_at "go"
  cases P with
  | @tup a xs e l t =>
    refine g_isi (s := "") (tn := "tuple") (.base (.tup e)) (b := true) (by decide +kernel) ?_
    walk_at "go"
    refine dif (fun h => ?_) fun h => ?_
    · rw [decide_eq_false (by omega), Bool.false_and] at q
      walk_at "go"
      exact q
    · rw [decide_eq_true (by omega), Bool.true_and] at q
      walk_at "go"
      refine for_T (stt_of e) (fun i σ H1 => ∃ last u, σ = [some (.ref a), some (.int last), u] ∧ H1 = H ∧ rising 0 xs = rising last (xs.drop i)) ⟨0, _, rfl, rfl, rfl⟩ ?_ ?_ ?_
      · rintro i σ H1 ⟨last, u, rfl, rfl, -⟩
        exact stt_of e
      · rintro i v σ H1 hv ⟨last, u, rfl, rfl, r⟩
        have hi := (List.getElem?_eq_some_iff.mp hv).1
        have hd : xs.drop i = v :: xs.drop (i + 1) := by
          rw [List.drop_eq_getElem_cons hi]
          congr 1
          exact (List.getElem?_eq_some_iff.mp hv).2
        rw [hd] at r
        have tv := t v (List.mem_of_getElem? hv)
        walk_at "go"
        refine ⟨tv, ?_⟩
        rcases tv.cases with ⟨z, rfl⟩ | ⟨e1, e2⟩
        · refine ⟨true, rfl, ?_⟩
          walk_at "go"
          have r : rising 0 xs = (btw (last + 1) 8 (.int z) && rising z (xs.drop (i + 1))) := r
          refine dif (fun h1 => ?_) fun h1 => ?_
          · walk_at "go"
            refine difN (fun h2 => ?_) fun h2 => ?_
            · rw [r, btw, decide_eq_true (by omega), decide_eq_false (by omega)] at q
              walk_at "go"
              exact q
            · rw [btw, decide_eq_true (by omega), decide_eq_true (by omega)] at r
              walk_at "go"
              exact ⟨z, _, rfl, rfl, by rw [r]; rfl⟩
          · rw [r, btw, decide_eq_false (by omega), Bool.false_and, Bool.false_and] at q
            walk_at "go"
            exact q
        · rw [e1]
          refine g_truB ?_
          walk_at "go"
          have r : rising 0 xs = false := by
            rw [r]
            show (btw (last + 1) 8 v && _) = false
            rw [e2, Bool.false_and]
          rw [r] at q
          exact q
      · rintro σ H1 ⟨last, u, rfl, rfl, r⟩
        rw [List.drop_of_length_le (Nat.le_refl _)] at r
        walk_at "go"
        rw [r] at q
        exact q
  | other t k =>
    refine g_isi (s := "") t k ?_
    walk_at "go"
    exact q
  ) only [↓Bx.eq]
section
variable (K : PySem.W.Frag) [HasTup K "KINDS" [.str "even", .str "quick", .str "run"]]
theorem g_kinds {z : Str} {H : Hp} {Q : VK} (q : Q (.bl (kindOk z)) H) : rAmong K (.str z) (.ref (He.ga K "KINDS")) H Q :=
  .inl ⟨_, _, rfl, .inr (HasTup.h H), rfl, rfl, q⟩
def F_is_look (K : PySem.W.Frag) : V → Hp → VK → XK → Prop := fun x H Q _ => ∃ b : Bool, LkT K H x b ∧ Q (.bl b) H
abbrev sp_is_look (K : PySem.W.Frag) : Sp := on1 (F_is_look K)
def t_is_look (K : PySem.W.Frag) (E : XK) : TS :=
  tSeq (tIfS (tOr (tNot (tTru K (tCB (rIsi2 K) (tCons (tVar 0) (tCons (tC (.ty "tuple")) (tNil)))))) (tTest (tOp (rDiff K) (tCB (rLength K) (tCons (tVar 0) (tNil))) (tC (.int 2))))) (tRet (tC (.bl false))) (tNext))
  (tRet (tAndV (tCB (rIsi2 K) (tCons (tOp (rIx K) (tVar 0) (tC (.int 0))) (tCons (tC (.ty "str")) (tNil)))) (tAndV (tOp (rAmong K) (tOp (rIx K) (tVar 0) (tC (.int 0))) (tC (.ref (He.ga K "KINDS")))) (tFun (sp_are_places K) [] (fun _ => E) (tCons (tOp (rIx K) (tVar 0) (tC (.int 1))) (tNil))))))
theorem pure_is_look {x : V} {H : Hp} {Q : VK} {E : XK} (h : F_is_look K x H Q E) : t_is_look K E ⟨fun _ H' => Q .non H', Q, fun _ _ => False, fun _ _ => False⟩ [some x] H := by
  refine Bx.out ?_
  simp (disch := with_unfolding_all
  obtain ⟨b, P, q⟩ := h
  unfold t_is_look
  walk_at "go"
  cases P with
  | @pair a z p b e h =>
    refine g_isi (s := "") (tn := "tuple") (.base (.tup e)) (b := true) (by decide +kernel) ?_
    walk_at "go"
    refine difNY rfl ?_
    walk_at "go"
    refine g_isi (s := "") (tn := "str") (.base (.str z)) (b := true) (by decide +kernel) ?_
    walk_at "go"
    refine g_kinds K ?_
    walk_at "go"
    refine difB (fun hk => ?_) fun hk => ?_
    · walk_at "go"
      rw [hk, Bool.true_and] at q
      exact ⟨b, h, q⟩
    · rw [hk, Bool.false_and] at q
      exact q
  | @kind a z p e h =>
    refine g_isi (s := "") (tn := "tuple") (.base (.tup e)) (b := true) (by decide +kernel) ?_
    walk_at "go"
    refine difNY rfl ?_
    walk_at "go"
    refine g_isi (s := "") (tn := "str") (.base (.str z)) (b := true) (by decide +kernel) ?_
    walk_at "go"
    refine g_kinds K ?_
    rw [h]
    walk_at "go"
    exact q
  | @nostr a y p tn e t k =>
    refine g_isi (s := "") (tn := "tuple") (.base (.tup e)) (b := true) (by decide +kernel) ?_
    walk_at "go"
    refine difNY rfl ?_
    walk_at "go"
    refine g_isi (s := "") t k ?_
    walk_at "go"
    exact q
  | @len a xs e l =>
    refine g_isi (s := "") (tn := "tuple") (.base (.tup e)) (b := true) (by decide +kernel) ?_
    walk_at "go"
    refine difNX (by omega) ?_
    walk_at "go"
    exact q
  | other t k =>
    refine g_isi (s := "") t k ?_
    walk_at "go"
    exact q
  ) only [↓Bx.eq]
def F_checked_looks (K : PySem.W.Frag) : V → Hp → VK → XK → Prop := fun x H Q E => ∃ b : Bool, LsT K H x b ∧ (b = false → ∀ H', Same H H' → E (.ref (He.ga K "NoLooks")) none H') ∧
  (b = true → ∀ a xs, x = .ref a → H a = some (.lst xs) → 1 ≤ xs.length → xs.length ≤ 6 → ∀ l H', H l = none → Same H H' → H' l = some (.lst xs) → Q (.ref l) H')
abbrev sp_checked_looks (K : PySem.W.Frag) : Sp := on1 (F_checked_looks K)
def t_checked_looks (K : PySem.W.Frag) (E : XK) : TS :=
  tSeq (tIfS (tOr (tNot (tTru K (tCB (rIsi2 K) (tCons (tVar 0) (tCons (tC (.ty "list")) (tNil)))))) (tNot (tTest (tChain (rLe) (rLe) (tC (.int 1)) (tCB (rLength K) (tCons (tVar 0) (tNil))) (tC (.int 6)))))) (tRz (fun cls d _ H => E cls d H) (He.ga K "NoLooks")) (tNext))
  (tSeq (tIfS (tNot (tTru K (tCB (rAll K) (tCons (tLc (iList K (tVar 0)) (gName 1) (tYes) (tFun (sp_is_look K) [] (fun _ => E0) (tCons (tVar 1) (tNil))) [1]) (tNil))))) (tRz (fun cls d _ H => E cls d H) (He.ga K "NoLooks")) (tNext))
  (tRet (tCB (rListOf K) (tCons (tVar 0) (tNil)))))
theorem pure_checked_looks {x : V} {H : Hp} {Q : VK} {E : XK} (h : F_checked_looks K x H Q E) : t_checked_looks K E ⟨fun _ H' => Q .non H', Q, fun _ _ => False, fun _ _ => False⟩ [some x, none] H := by
  refine Bx.out ?_
  simp (disch := with_unfolding_all
  obtain ⟨b, P, r, q⟩ := h
  unfold t_checked_looks
  walk_at "go"
  cases P with
  | @lst a xs bs e l bl t =>
    refine g_isi (s := "") (tn := "list") (.base (.lst e)) (b := true) (by decide +kernel) ?_
    walk_at "go"
    refine dif (fun h1 => ?_) fun h1 => ?_
    · walk_at "go"
      refine difN (fun h2 => ?_) fun h2 => ?_
      · walk_at "go"
        rw [decide_eq_false (p := xs.length ≤ 6) (by omega), Bool.false_and, Bool.and_false] at r
        exact r rfl _ (Same.refl _)
      · walk_at "go"
        rw [decide_eq_true (p := xs.length ≤ 6) (by omega), decide_eq_true (p := 1 ≤ xs.length) (by omega), Bool.true_and, Bool.true_and] at r q
        refine lc_LN (sq_of e) l (fun D i ys H2 => H D = none ∧ Same H H2 ∧ H2 D = some (.lst ys) ∧ ys = (bs.take i).map V.bl ∧ i ≤ xs.length) (fun D hD => ⟨hD, same_new (Same.refl _) hD, upd_same, rfl, Nat.zero_le _⟩) ?_ ?_ ?_
        · rintro D i ys H2 ⟨hD, s, eD, rfl, hi⟩
          exact ⟨sq_of (s _ _ e), eD, by rw [List.length_map, List.length_take]; omega⟩
        · rintro D i v ys H2 Q2 hv ⟨hD, s, eD, rfl, hi⟩ k
          have hi := (List.getElem?_eq_some_iff.mp hv).1
          have hb : bs[i]? = some (bs[i]'(by omega)) := List.getElem?_eq_getElem (by omega)
          generalize bs[i]'(by omega) = w at hb
          walk_at "go"
          exact ⟨w, (t i v w hv hb).same s, k _ _ eD ⟨hD, same_mut s hD, upd_same, by rw [List.take_add_one, hb, List.map_append]; rfl, by omega⟩⟩
        · rintro D ys H3 ⟨hD, s, eD, rfl, -⟩
          rw [List.take_of_length_le (by omega)] at eD
          walk_at "go"
          refine g_all (bs := bs) (sq_of eD) ?_
          have e3 := s _ _ e
          walk_at "go"
          refine difNB (fun h => ?_) fun h => ?_
          · walk_at "go"
            exact r h _ s
          · walk_at "go"
            intro l2 nl2
            exact q h a xs rfl e (by omega) (by omega) l2 _ (s.free nl2) (same_new s nl2) upd_same
    · walk_at "go"
      rw [decide_eq_false (p := 1 ≤ xs.length) (by omega), Bool.false_and] at r
      exact r rfl _ (Same.refl _)
  | other t k =>
    refine g_isi (s := "") t k ?_
    walk_at "go"
    exact r rfl _ (Same.refl _)
  ) only [↓Bx.eq]
end
/-- a look as it stands -/
abbrev Lk := Str × List Int
structure LkOk (k : Lk) : Prop where
  kind : k.1 = "even" ∨ k.1 = "quick" ∨ k.1 = "run"
  plc : Plc k.2
def LookH (H : Hp) (a : Addr) (k : Lk) : Prop := ∃ b, H a = some (.tup [.str k.1, .ref b]) ∧ H b = some (.tup (k.2.map V.int))
theorem LookH.same {H H1 : Hp} {a : Addr} {k : Lk} (h : LookH H a k) (s : Same H H1) : LookH H1 a k := by
  obtain ⟨b, h1, h2⟩ := h
  exact ⟨b, s _ _ h1, s _ _ h2⟩
theorem LookH.at_ {K : PySem.W.Frag} {H : Hp} {a : Addr} {k : Lk} (h : LookH H a k) (ok : LkOk k) : LookAt K H a k.1 k.2 := by
  obtain ⟨b, h1, h2⟩ := h
  exact ⟨b, stt_of h1, stt_of h2, ok.plc⟩
theorem rising_ok : ∀ (ps : List Int) (last : Int), (∀ z ∈ ps, last < z ∧ z ≤ 8) → ps.Pairwise (· < ·) → rising last (ps.map V.int) = true
  | [], _, _, _ => rfl
  | z :: ps, last, h, p => by
    have hz := h z List.mem_cons_self
    rw [List.pairwise_cons] at p
    show (btw (last + 1) 8 (.int z) && rising z (ps.map V.int)) = true
    rw [rising_ok ps z (fun y hy => ⟨p.1 y hy, (h y (List.mem_cons_of_mem _ hy)).2⟩) p.2, btw, decide_eq_true (by omega), decide_eq_true (by omega)]
    rfl
theorem LookH.yes {K : PySem.W.Frag} {H : Hp} {a : Addr} {k : Lk} (h : LookH H a k) (ok : LkOk k) : LkT K H (.ref a) true := by
  obtain ⟨b, h1, h2⟩ := h
  have pl := ok.plc.len
  have e := LkT.pair (K := K) h1 (PlT.tup h2 (by rw [List.length_map]; omega) fun v hv => by obtain ⟨z, _, rfl⟩ := List.mem_map.mp hv; exact .int)
  rw [decide_eq_true (by rw [List.length_map]; omega), rising_ok k.2 0 (fun z hz => by have := ok.plc.all z hz; omega) ok.plc.up] at e
  have kk : kindOk k.1 = true := by rcases ok.kind with z | z | z <;> rw [z] <;> decide +kernel
  rw [kk] at e
  exact e
/-- a list of looks -/
structure LooksH (H : Hp) (l : Addr) (as : List Addr) (ks : List Lk) : Prop where
  lst : H l = some (.lst (as.map V.ref))
  len : as.length = ks.length
  at_ : ∀ (i : Nat) a k, as[i]? = some a → ks[i]? = some k → LookH H a k
structure LksOk (ks : List Lk) : Prop where
  l1 : 1 ≤ ks.length
  l6 : ks.length ≤ 6
  all : ∀ k ∈ ks, LkOk k
theorem LooksH.same {H H1 : Hp} {l : Addr} {as : List Addr} {ks : List Lk} (h : LooksH H l as ks) (s : Same H H1) : LooksH H1 l as ks := ⟨s _ _ h.lst, h.len, fun i a k ha hk => (h.at_ i a k ha hk).same s⟩
theorem LooksH.yes {K : PySem.W.Frag} {H : Hp} {l : Addr} {as : List Addr} {ks : List Lk} (h : LooksH H l as ks) (ok : LksOk ks) : LsT K H (.ref l) true := by
  have l1 := ok.l1
  have l6 := ok.l6
  have hl := h.len
  have e := LsT.lst (K := K) (bs := as.map fun _ => true) h.lst (by rw [List.length_map]; omega) (by rw [List.length_map, List.length_map]) fun i v b hv hb => by
    obtain ⟨a, ha, rfl⟩ := map_at hv
    rw [List.getElem?_map, ha] at hb
    cases hb
    have hi := (List.getElem?_eq_some_iff.mp ha).1
    have hk : ks[i]? = some (ks[i]'(by omega)) := List.getElem?_eq_getElem (by omega)
    exact (h.at_ i a _ ha hk).yes (ok.all _ (List.mem_of_getElem? hk))
  rw [decide_eq_true (by rw [List.length_map]; omega), decide_eq_true (by rw [List.length_map]; omega)] at e
  have al : (as.map fun _ => true).all id = true := by simp
  rw [al] at e
  exact e
theorem looks_of {K : PySem.W.Frag} {H : Hp} {Q : VK} {E : XK} {l : Addr} {as : List Addr} {ks : List Lk} (h : LooksH H l as ks) (ok : LksOk ks) (q : ∀ l' H', H l' = none → Same H H' → LooksH H' l' as ks → Q (.ref l') H') : F_checked_looks K (.ref l) H Q E := by
  refine ⟨true, h.yes ok, (fun z => nomatch z), fun _ a xs ea e _ _ l' H' nl s el => ?_⟩
  cases ea
  rw [h.lst] at e
  cases e
  exact q l' H' nl s ⟨el, h.len, (h.same s).at_⟩
/-! slots: what they hold, tell and learn -/
inductive Sl where
  | even (n o : Int)
  | quick (h : Int)
  | run (b l : Int)
def slC : Sl → Str
  | .even _ _ => "Even"
  | .quick _ => "Quick"
  | .run _ _ => "Run"
def slF : Sl → List (Str × V)
  | .even n o => [("noughts", .int n), ("ones", .int o)]
  | .quick h => [("held", .int h)]
  | .run b l => [("last", .int b), ("length", .int l)]
def slO (K : PySem.W.Frag) (dx : Addr) (s : Sl) : HO := .ins (He.ga K (slC s)) dx (slF s)
def chanceS : Sl → Int
  | .even n o => (2 * o + 1) * 16777216 / (2 * (n + o) + 2)
  | .quick h => h
  | .run b l => if b = 1 then (2 * l + 1) * 16777216 / (2 * l + 2) else 16777216 - (2 * l + 1) * 16777216 / (2 * l + 2)
def evenS (n o : Int) : Sl := if n + o > 255 then .even ((n + 1) / 2) ((o + 1) / 2) else .even n o
def capQ (h : Int) : Int := if (if h < 16744448 then h else 16744448) > 32768 then (if h < 16744448 then h else 16744448) else 32768
def quickS (h b : Int) : Int := capQ (if b = 1 then h + (16777216 - h) / 16 else h - h / 16)
def seenS : Sl → Int → Sl
  | .even n o, b => if b = 1 then evenS n (o + 1) else evenS (n + 1) o
  | .quick h, b => .quick (quickS h b)
  | .run b0 l, b => if b = b0 then .run b0 (if 255 < l + 1 then 255 else l + 1) else .run b 1
def SlOk : Sl → Prop
  | .even n o => 0 ≤ n ∧ 0 ≤ o ∧ n + o ≤ 255
  | .quick h => 32768 ≤ h ∧ h ≤ 16744448
  | .run b l => 0 ≤ b ∧ b ≤ 1 ∧ 0 ≤ l ∧ l ≤ 255
theorem seenS_even {n o b : Int} : seenS (.even n o) b = if b = 1 then evenS n (o + 1) else evenS (n + 1) o := rfl
theorem seenS_quick {h b : Int} : seenS (.quick h) b = .quick (quickS h b) := rfl
theorem seenS_run {b0 l b : Int} : seenS (.run b0 l) b = if b = b0 then .run b0 (if 255 < l + 1 then 255 else l + 1) else .run b 1 := rfl
theorem chanceS_run {b l : Int} : chanceS (.run b l) = if b = 1 then (2 * l + 1) * 16777216 / (2 * l + 2) else 16777216 - (2 * l + 1) * 16777216 / (2 * l + 2) := rfl
theorem slO_even {K : PySem.W.Frag} {dx : Addr} {n o : Int} : slO K dx (.even n o) = .ins (He.ga K "Even") dx [("noughts", .int n), ("ones", .int o)] := rfl
theorem slO_quick {K : PySem.W.Frag} {dx : Addr} {h : Int} : slO K dx (.quick h) = .ins (He.ga K "Quick") dx [("held", .int h)] := rfl
theorem slO_run {K : PySem.W.Frag} {dx : Addr} {b l : Int} : slO K dx (.run b l) = .ins (He.ga K "Run") dx [("last", .int b), ("length", .int l)] := rfl
theorem evenS_ok {n o : Int} (h0 : 0 ≤ n) (h1 : 0 ≤ o) (h : n + o ≤ 256) : SlOk (evenS n o) := by
  unfold evenS
  split
  · show 0 ≤ (n + 1) / 2 ∧ 0 ≤ (o + 1) / 2 ∧ (n + 1) / 2 + (o + 1) / 2 ≤ 255
    omega
  · show 0 ≤ n ∧ 0 ≤ o ∧ n + o ≤ 255
    omega
theorem capQ_ok (h : Int) : 32768 ≤ capQ h ∧ capQ h ≤ 16744448 := by
  unfold capQ
  split <;> split <;> omega
theorem seenS_ok {s : Sl} {b : Int} (h : SlOk s) (hb : 0 ≤ b ∧ b ≤ 1) : SlOk (seenS s b) := by
  cases s with
  | even n o =>
    obtain ⟨h0, h1, h2⟩ := h
    rw [seenS_even]
    split
    · exact evenS_ok h0 (by omega) (by omega)
    · exact evenS_ok (by omega) h1 (by omega)
  | quick h => exact capQ_ok _
  | run b0 l =>
    obtain ⟨h0, h1, h2, h3⟩ := h
    rw [seenS_run]
    split
    · show 0 ≤ b0 ∧ b0 ≤ 1 ∧ 0 ≤ (if 255 < l + 1 then (255 : Int) else l + 1) ∧ (if 255 < l + 1 then (255 : Int) else l + 1) ≤ 255
      split <;> omega
    · show 0 ≤ b ∧ b ≤ 1 ∧ (0 : Int) ≤ 1 ∧ (1 : Int) ≤ 255
      omega
theorem slC_seen (s : Sl) (b : Int) : slC (seenS s b) = slC s := by
  cases s with
  | even n o => rw [seenS_even]; unfold evenS; split <;> split <;> rfl
  | quick h => rfl
  | run b0 l => rw [seenS_run]; split <;> rfl
theorem cdw_small {i j : Int} (h : 0 < j) (h2 : j < 2 ^ 40) : CDivW i j := ⟨h, by
  have : j.natAbs.log2 < 41 := (Nat.log2_lt (by omega)).mpr (by omega)
  omega⟩
section
variable (K : PySem.W.Frag)
def F_Even_init (K : PySem.W.Frag) : V → Hp → VK → XK → Prop := fun x H Q _ => ∃ a dx, x = .ref a ∧ H a = some (.ins (He.ga K "Even") dx []) ∧ Q .non (upd H a (slO K dx (.even 0 0)))
abbrev sp_Even_init (K : PySem.W.Frag) : Sp := on1 (F_Even_init K)
def F_Quick_init (K : PySem.W.Frag) : V → Hp → VK → XK → Prop := fun x H Q _ => ∃ a dx, x = .ref a ∧ H a = some (.ins (He.ga K "Quick") dx []) ∧ Q .non (upd H a (slO K dx (.quick 8388608)))
abbrev sp_Quick_init (K : PySem.W.Frag) : Sp := on1 (F_Quick_init K)
def F_Run_init (K : PySem.W.Frag) : V → Hp → VK → XK → Prop := fun x H Q _ => ∃ a dx, x = .ref a ∧ H a = some (.ins (He.ga K "Run") dx []) ∧ Q .non (upd H a (slO K dx (.run 0 0)))
abbrev sp_Run_init (K : PySem.W.Frag) : Sp := on1 (F_Run_init K)
def F_chance (K : PySem.W.Frag) (ok : Sl → Prop) : V → Hp → VK → XK → Prop := fun x H Q _ => ∃ a dx s, x = .ref a ∧ H a = some (slO K dx s) ∧ SlOk s ∧ ok s ∧ Q (.int (chanceS s)) H
def isE : Sl → Prop | .even _ _ => True | _ => False
def isQ : Sl → Prop | .quick _ => True | _ => False
def isR : Sl → Prop | .run _ _ => True | _ => False
abbrev sp_Even_chance (K : PySem.W.Frag) : Sp := on1 (F_chance K isE)
abbrev sp_Quick_chance (K : PySem.W.Frag) : Sp := on1 (F_chance K isQ)
abbrev sp_Run_chance (K : PySem.W.Frag) : Sp := on1 (F_chance K isR)
def F_seen (K : PySem.W.Frag) (ok : Sl → Prop) : V → V → Hp → VK → XK → Prop := fun x y H Q E => ∃ a dx s, x = .ref a ∧ H a = some (slO K dx s) ∧ SlOk s ∧ ok s ∧ TyW K H y ∧ (btw 0 1 y = false → E (.ref (He.ga K "NoBit")) none H) ∧
  (∀ b : Int, y = .int b → 0 ≤ b → b ≤ 1 → Q .non (upd H a (slO K dx (seenS s b))))
abbrev sp_Even_seen (K : PySem.W.Frag) : Sp := on2 (F_seen K isE)
abbrev sp_Quick_seen (K : PySem.W.Frag) : Sp := on2 (F_seen K isQ)
abbrev sp_Run_seen (K : PySem.W.Frag) : Sp := on2 (F_seen K isR)
theorem seen_of {a dx : Addr} {s : Sl} {ok : Sl → Prop} {b : Int} {H : Hp} {Q : VK} {E : XK} (ha : H a = some (slO K dx s)) (w : SlOk s) (k : ok s) (hb : 0 ≤ b ∧ b ≤ 1) (q : Q .non (upd H a (slO K dx (seenS s b)))) : F_seen K ok (.ref a) (.int b) H Q E :=
  ⟨a, dx, s, rfl, ha, w, k, .int, (fun z => by rw [btw, decide_eq_true hb.1, decide_eq_true hb.2] at z; cases z), fun b' e _ _ => by cases e; exact q⟩
end
section
variable (K : PySem.W.Frag) [HasCls K "Even"] [HasNo K "Even" "noughts"] [HasNo K "Even" "ones"]
def t_Even_init (K : PySem.W.Frag) (E : XK) : TS :=
  tSeq (sFld K (tVar 0) (tC (.int 0)) "noughts")
  (sFld K (tVar 0) (tC (.int 0)) "ones")
theorem pure_Even_init {x : V} {H : Hp} {Q : VK} {E : XK} (h : F_Even_init K x H Q E) : t_Even_init K E ⟨fun _ H' => Q .non H', Q, fun _ _ => False, fun _ _ => False⟩ [some x] H := by
  obtain ⟨a, dx, rfl, ha, q⟩ := h
  unfold t_Even_init
  walk_at "go"
  exact q
def t_Even_chance (K : PySem.W.Frag) (E : XK) : TS :=
  tRet (tOp (rFloor) (tOp (rTimes) (tOp (rPlus K) (tOp (rTimes) (tC (.int 2)) (tFld K (tVar 0) "ones")) (tC (.int 1))) (tC (.int 16777216))) (tOp (rPlus K) (tOp (rTimes) (tC (.int 2)) (tOp (rPlus K) (tFld K (tVar 0) "noughts") (tFld K (tVar 0) "ones"))) (tC (.int 2))))
theorem pure_Even_chance {x : V} {H : Hp} {Q : VK} {E : XK} (h : F_chance K isE x H Q E) : t_Even_chance K E ⟨fun _ H' => Q .non H', Q, fun _ _ => False, fun _ _ => False⟩ [some x] H := by
  refine Bx.out ?_
  simp (disch := with_unfolding_all
  obtain ⟨a, dx, s, rfl, ha, w, k, q⟩ := h
  cases s with
  | even n o =>
    obtain ⟨h0, h1, h2⟩ := w
    rw [slO_even] at ha
    unfold t_Even_chance
    walk_at "go"
    exact g_floor (cdw_small (by omega) (by omega)) q
  | _ => exact k.elim
  ) only [↓Bx.eq]
def t_Even_seen (K : PySem.W.Frag) (E : XK) : TS :=
  tSeq (tIfS (tTest (tOp (rSame K) (tFun (sp_checked_bit K) [] (fun _ => E) (tCons (tVar 1) (tNil))) (tC (.int 1)))) (sFldAug K (tVar 0) (tC (.int 1)) L2.rAdd "ones") (sFldAug K (tVar 0) (tC (.int 1)) L2.rAdd "noughts"))
  (tIfS (tTest (tOp (iGt) (tOp (rPlus K) (tFld K (tVar 0) "noughts") (tFld K (tVar 0) "ones")) (tC (.int 255)))) (tSeq (sFld K (tVar 0) (tOp (rFloor) (tOp (rPlus K) (tFld K (tVar 0) "noughts") (tC (.int 1))) (tC (.int 2))) "noughts")
  (sFld K (tVar 0) (tOp (rFloor) (tOp (rPlus K) (tFld K (tVar 0) "ones") (tC (.int 1))) (tC (.int 2))) "ones")) (tNext))
theorem pure_Even_seen {x y : V} {H : Hp} {Q : VK} {E : XK} (h : F_seen K isE x y H Q E) : t_Even_seen K E ⟨fun _ H' => Q .non H', Q, fun _ _ => False, fun _ _ => False⟩ [some x, some y] H := by
  refine Bx.out ?_
  simp (disch := with_unfolding_all
  obtain ⟨a, dx, s, rfl, ha, w, k, ty, r, q⟩ := h
  cases s with
  | even n o =>
    obtain ⟨h0, h1, h2⟩ := w
    rw [slO_even] at ha
    unfold t_Even_seen
    walk_at "go"
    refine ⟨ty, fun hy => ?_, r⟩
    obtain ⟨b, rfl, b1, b2⟩ := btw_int hy
    have q := q b rfl b1 b2
    rw [seenS_even] at q
    unfold evenS at q
    walk_at "go"
    refine dif (fun hb => ?_) fun hb => ?_
    · rw [if_pos hb] at q
      walk_at "go"
      refine dif (fun hc => ?_) fun hc => ?_
      · rw [if_pos hc] at q
        walk_at "go"
        exact q
      · rw [if_neg hc] at q
        walk_at "go"
        exact q
    · rw [if_neg hb] at q
      walk_at "go"
      refine dif (fun hc => ?_) fun hc => ?_
      · rw [if_pos hc] at q
        walk_at "go"
        exact q
      · rw [if_neg hc] at q
        walk_at "go"
        exact q
  | _ => exact k.elim
  ) only [↓Bx.eq]
end
section
variable (K : PySem.W.Frag) [HasCls K "Quick"] [HasNo K "Quick" "held"]
def t_Quick_init (K : PySem.W.Frag) (E : XK) : TS :=
  sFld K (tVar 0) (tOp (rFloor) (tC (.int 16777216)) (tC (.int 2))) "held"
theorem pure_Quick_init {x : V} {H : Hp} {Q : VK} {E : XK} (h : F_Quick_init K x H Q E) : t_Quick_init K E ⟨fun _ H' => Q .non H', Q, fun _ _ => False, fun _ _ => False⟩ [some x] H := by
  obtain ⟨a, dx, rfl, ha, q⟩ := h
  unfold t_Quick_init
  walk_at "go"
  exact q
def t_Quick_chance (K : PySem.W.Frag) (E : XK) : TS :=
  tRet (tFld K (tVar 0) "held")
theorem pure_Quick_chance {x : V} {H : Hp} {Q : VK} {E : XK} (h : F_chance K isQ x H Q E) : t_Quick_chance K E ⟨fun _ H' => Q .non H', Q, fun _ _ => False, fun _ _ => False⟩ [some x] H := by
  refine Bx.out ?_
  simp (disch := with_unfolding_all
  obtain ⟨a, dx, s, rfl, ha, w, k, q⟩ := h
  cases s with
  | quick h =>
    rw [slO_quick] at ha
    unfold t_Quick_chance
    walk_at "go"
    exact q
  | _ => exact k.elim
  ) only [↓Bx.eq]
def t_Quick_seen (K : PySem.W.Frag) (E : XK) : TS :=
  tSeq (tIfS (tTest (tOp (rSame K) (tFun (sp_checked_bit K) [] (fun _ => E) (tCons (tVar 1) (tNil))) (tC (.int 1)))) (sFldAug K (tVar 0) (tOp (rFloor) (tOp (rMinus) (tC (.int 16777216)) (tFld K (tVar 0) "held")) (tC (.int 16))) L2.rAdd "held") (sFldAug K (tVar 0) (tOp (rFloor) (tFld K (tVar 0) "held") (tC (.int 16))) L2.rSub "held"))
  (sFld K (tVar 0) (tCB (rGreatest K) (tCons (tC (.int 32768)) (tCons (tCB (rLeast K) (tCons (tOp (rMinus) (tC (.int 16777216)) (tC (.int 32768))) (tCons (tFld K (tVar 0) "held") (tNil)))) (tNil)))) "held")
theorem pure_Quick_seen {x y : V} {H : Hp} {Q : VK} {E : XK} (h : F_seen K isQ x y H Q E) : t_Quick_seen K E ⟨fun _ H' => Q .non H', Q, fun _ _ => False, fun _ _ => False⟩ [some x, some y] H := by
  refine Bx.out ?_
  simp (disch := with_unfolding_all
  obtain ⟨a, dx, s, rfl, ha, w, k, ty, r, q⟩ := h
  cases s with
  | quick h =>
    rw [slO_quick] at ha
    unfold t_Quick_seen
    walk_at "go"
    refine ⟨ty, fun hy => ?_, r⟩
    obtain ⟨b, rfl, b1, b2⟩ := btw_int hy
    have q := q b rfl b1 b2
    rw [seenS_quick] at q
    unfold quickS at q
    walk_at "go"
    refine dif (fun hb => ?_) fun hb => ?_
    · rw [if_pos hb] at q
      walk_at "go"
      exact q
    · rw [if_neg hb] at q
      walk_at "go"
      exact q
  | _ => exact k.elim
  ) only [↓Bx.eq]
end
section
variable (K : PySem.W.Frag) [HasCls K "Run"] [HasNo K "Run" "last"] [HasNo K "Run" "length"]
def t_Run_init (K : PySem.W.Frag) (E : XK) : TS :=
  tSeq (sFld K (tVar 0) (tC (.int 0)) "last")
  (sFld K (tVar 0) (tC (.int 0)) "length")
theorem pure_Run_init {x : V} {H : Hp} {Q : VK} {E : XK} (h : F_Run_init K x H Q E) : t_Run_init K E ⟨fun _ H' => Q .non H', Q, fun _ _ => False, fun _ _ => False⟩ [some x] H := by
  obtain ⟨a, dx, rfl, ha, q⟩ := h
  unfold t_Run_init
  walk_at "go"
  exact q
def t_Run_chance (K : PySem.W.Frag) (E : XK) : TS :=
  tSeq (tAsg (tOp (rFloor) (tOp (rTimes) (tOp (rPlus K) (tOp (rTimes) (tC (.int 2)) (tFld K (tVar 0) "length")) (tC (.int 1))) (tC (.int 16777216))) (tOp (rPlus K) (tOp (rTimes) (tC (.int 2)) (tFld K (tVar 0) "length")) (tC (.int 2)))) (gName 1))
  (tSeq (tIfS (tTest (tOp (rSame K) (tFld K (tVar 0) "last") (tC (.int 1)))) (tRet (tVar 1)) (tNext))
  (tRet (tOp (rMinus) (tC (.int 16777216)) (tVar 1))))
theorem pure_Run_chance {x : V} {H : Hp} {Q : VK} {E : XK} (h : F_chance K isR x H Q E) : t_Run_chance K E ⟨fun _ H' => Q .non H', Q, fun _ _ => False, fun _ _ => False⟩ [some x, none] H := by
  refine Bx.out ?_
  simp (disch := with_unfolding_all
  obtain ⟨a, dx, s, rfl, ha, w, k, q⟩ := h
  cases s with
  | run b l =>
    obtain ⟨h0, h1, h2, h3⟩ := w
    rw [slO_run] at ha
    rw [chanceS_run] at q
    unfold t_Run_chance
    walk_at "go"
    refine g_floor (cdw_small (by omega) (by omega)) ?_
    walk_at "go"
    refine dif (fun hb => ?_) fun hb => ?_
    · rw [if_pos hb] at q
      walk_at "go"
      exact q
    · rw [if_neg hb] at q
      walk_at "go"
      exact q
  | _ => exact k.elim
  ) only [↓Bx.eq]
def t_Run_seen (K : PySem.W.Frag) (E : XK) : TS :=
  tIfS (tTest (tOp (rSame K) (tFun (sp_checked_bit K) [] (fun _ => E) (tCons (tVar 1) (tNil))) (tFld K (tVar 0) "last"))) (sFld K (tVar 0) (tCB (rLeast K) (tCons (tOp (rPlus K) (tFld K (tVar 0) "length") (tC (.int 1))) (tCons (tC (.int 255)) (tNil)))) "length") (tSeq (sFld K (tVar 0) (tVar 1) "last")
  (sFld K (tVar 0) (tC (.int 1)) "length"))
theorem pure_Run_seen {x y : V} {H : Hp} {Q : VK} {E : XK} (h : F_seen K isR x y H Q E) : t_Run_seen K E ⟨fun _ H' => Q .non H', Q, fun _ _ => False, fun _ _ => False⟩ [some x, some y] H := by
  refine Bx.out ?_
  simp (disch := with_unfolding_all
  obtain ⟨a, dx, s, rfl, ha, w, k, ty, r, q⟩ := h
  cases s with
  | run b0 l =>
    obtain ⟨h0, h1, h2, h3⟩ := w
    rw [slO_run] at ha
    unfold t_Run_seen
    walk_at "go"
    refine ⟨ty, fun hy => ?_, r⟩
    obtain ⟨b, rfl, b1, b2⟩ := btw_int hy
    have q := q b rfl b1 b2
    rw [seenS_run] at q
    walk_at "go"
    refine dif (fun hb => ?_) fun hb => ?_
    · rw [if_pos hb] at q
      walk_at "go"
      exact q
    · rw [if_neg hb] at q
      walk_at "go"
      exact q
  | _ => exact k.elim
  ) only [↓Bx.eq]
end
theorem pick_chance {K : PySem.W.Frag} {H : Hp} {a dx : Addr} {s : Sl} {A : Sp → Prop} (h : H a = some (slO K dx s)) (hA : ∀ ok : Sl → Prop, ok s → A (on1 (F_chance K ok))) :
    mthK "chance" (orM (one (He.ga K "Even") (sp_Even_chance K)) (orM (one (He.ga K "Quick") (sp_Quick_chance K)) (one (He.ga K "Run") (sp_Run_chance K)))) (.ref a) H A := by
  cases s with
  | even n o => exact g_orA (g_one h rfl (hA _ trivial))
  | quick h' => exact g_orB (g_orA (g_one h rfl (hA _ trivial)))
  | run b l => exact g_orB (g_orB (g_one h rfl (hA _ trivial)))
theorem pick_seen {K : PySem.W.Frag} {H : Hp} {a dx : Addr} {s : Sl} {A : Sp → Prop} (h : H a = some (slO K dx s)) (hA : ∀ ok : Sl → Prop, ok s → A (on2 (F_seen K ok))) :
    mthK "seen" (orM (one (He.ga K "Even") (sp_Even_seen K)) (orM (one (He.ga K "Quick") (sp_Quick_seen K)) (one (He.ga K "Run") (sp_Run_seen K)))) (.ref a) H A := by
  cases s with
  | even n o => exact g_orA (g_one h rfl (hA _ trivial))
  | quick h' => exact g_orB (g_orA (g_one h rfl (hA _ trivial)))
  | run b l => exact g_orB (g_orB (g_one h rfl (hA _ trivial)))
def kindS : Sl → Str
  | .even _ _ => "even"
  | .quick _ => "quick"
  | .run _ _ => "run"
/-- a slot of a kind's name, fresh -/
def new0 (kind : Str) : Sl := if kind = "even" then .even 0 0 else if kind = "quick" then .quick 8388608 else .run 0 0
def F_slot_of (K : PySem.W.Frag) : V → Hp → VK → XK → Prop := fun x H Q _ => ∃ kind : Str, x = .str kind ∧ ∀ a dx H', H a = none → Same H H' → H' a = some (slO K dx (new0 kind)) → Q (.ref a) H'
abbrev sp_slot_of (K : PySem.W.Frag) : Sp := on1 (F_slot_of K)
theorem new0_ok (kind : Str) : SlOk (new0 kind) := by
  unfold new0
  split
  · exact ⟨by decide, by decide, by decide⟩
  · split
    · exact ⟨by decide, by decide⟩
    · exact ⟨by decide, by decide, by decide, by decide⟩
def t_slot_of (K : PySem.W.Frag) (E : XK) : TS :=
  tSeq (tIfS (tTest (tOp (rSame K) (tVar 0) (tC (.str "even")))) (tRet (tNew (He.ga K "Even") (sp_Even_init K) [] (fun _ => E) (tNil))) (tNext))
  (tSeq (tIfS (tTest (tOp (rSame K) (tVar 0) (tC (.str "quick")))) (tRet (tNew (He.ga K "Quick") (sp_Quick_init K) [] (fun _ => E) (tNil))) (tNext))
  (tRet (tNew (He.ga K "Run") (sp_Run_init K) [] (fun _ => E) (tNil))))
theorem pure_slot_of (K : PySem.W.Frag) {x : V} {H : Hp} {Q : VK} {E : XK} (h : F_slot_of K x H Q E) : t_slot_of K E ⟨fun _ H' => Q .non H', Q, fun _ _ => False, fun _ _ => False⟩ [some x] H := by
  refine Bx.out ?_
  simp (disch := with_unfolding_all
  obtain ⟨kind, rfl, q⟩ := h
  unfold t_slot_of
  walk_at "go"
  refine dif (fun h1 => ?_) fun h1 => ?_
  · walk_at "go"
    intro a dx na ndx nad
    walk_at "go"
    refine ⟨a, dx, rfl, upd_same, rfl, ?_⟩
    rw [upd_upd]
    exact q a dx _ na (by walk_at "sm") (by rw [upd_same, new0, if_pos h1])
  · walk_at "go"
    refine dif (fun h2 => ?_) fun h2 => ?_
    · walk_at "go"
      intro a dx na ndx nad
      walk_at "go"
      refine ⟨a, dx, rfl, upd_same, rfl, ?_⟩
      rw [upd_upd]
      exact q a dx _ na (by walk_at "sm") (by rw [upd_same, new0, if_neg h1, if_pos h2])
    · walk_at "go"
      intro a dx na ndx nad
      walk_at "go"
      refine ⟨a, dx, rfl, upd_same, rfl, ?_⟩
      rw [upd_upd]
      exact q a dx _ na (by walk_at "sm") (by rw [upd_same, new0, if_neg h1, if_neg h2])
  ) only [↓Bx.eq]
/-! a book: its slots by contexts -/
def kc (c : List Int) : List Key := c.map Sum.inl
theorem kc_inj {c d : List Int} (h : kc c = kc d) : c = d := (List.map_inj_right fun _ _ h => Sum.inl.inj h).mp h
theorem kc_v (c : List Int) : (kc c).map kV = c.map V.int := by unfold kc; rw [List.map_map]; rfl
abbrev BkF := List Int → Sl
def fresh (kind : Str) : BkF := fun _ => new0 kind
def updB (f : BkF) (c : List Int) (s : Sl) : BkF := fun d => if d = c then s else f d
/-- neither a list nor a tuple -/
structure MutO (o : HO) : Prop where
  t : ∀ xs, o ≠ .tup xs
  l : ∀ xs, o ≠ .lst xs
theorem MutO.sl {K : PySem.W.Frag} {dx : Addr} {s : Sl} : MutO (slO K dx s) := ⟨fun xs z => (by cases s <;> cases z), fun xs z => (by cases s <;> cases z)⟩
theorem MutO.ins {C dx : Addr} {fs : List (Str × V)} : MutO (.ins C dx fs) := ⟨fun xs z => (by cases z), fun xs z => (by cases z)⟩
theorem MutO.dT {kvs : List (List Key × V)} : MutO (.dT kvs) := ⟨fun xs z => (by cases z), fun xs z => (by cases z)⟩
abbrev bookF (la d : Addr) : List (Str × V) := [("look", .ref la), ("slots", .ref d)]
theorem book_ne {K : PySem.W.Frag} {C dx sx la d : Addr} {s : Sl} : HO.ins C dx (bookF la d) ≠ slO K sx s := fun z => by
  have z := (HO.ins.inj z).2.2
  cases s <;> simp [bookF, slF] at z
structure BookX (K : PySem.W.Frag) (H : Hp) (a dx la d : Addr) (kvs : List (List Key × V)) (Fp : Addr → Prop) (k : Lk) (f : BkF) (n : Nat) : Prop where
  ins : H a = some (.ins (He.ga K "Book") dx (bookF la d))
  look : LookH H la k
  dic : H d = some (.dT kvs)
  len : kvs.length ≤ n
  fa : Fp a
  fd : Fp d
  non : ∀ c, valV kvs (kc c) = none → f c = new0 k.1
  som : ∀ c v, valV kvs (kc c) = some v → ∃ s sx, v = .ref s ∧ H s = some (slO K sx (f c)) ∧ Fp s
  inj : ∀ c c' s, valV kvs (kc c) = some (.ref s) → valV kvs (kc c') = some (.ref s) → c = c'
  ok : ∀ c, SlOk (f c)
  dom : ∀ b, Fp b → ∃ o, H b = some o ∧ MutO o
def BookAt (K : PySem.W.Frag) (H : Hp) (a : Addr) (Fp : Addr → Prop) (k : Lk) (f : BkF) (n : Nat) : Prop := ∃ dx la d kvs, BookX K H a dx la d kvs Fp k f n
theorem LookH.keep {M : Addr → Prop} {H H1 : Hp} {a : Addr} {k : Lk} (h : LookH H a k) (s : SameX M H H1) (nt : ∀ b xs, H b = some (.tup xs) → ¬ M b) : LookH H1 a k := by
  obtain ⟨b, h1, h2⟩ := h
  exact ⟨b, s.kp _ _ (nt _ _ h1) h1, s.kp _ _ (nt _ _ h2) h2⟩
theorem BookX.keep {K : PySem.W.Frag} {H H1 : Hp} {a dx la d : Addr} {kvs : List (List Key × V)} {Fp M : Addr → Prop} {k : Lk} {f : BkF} {n : Nat} (h : BookX K H a dx la d kvs Fp k f n) (s : SameX M H H1) (dj : ∀ b, Fp b → ¬ M b) (nt : ∀ b xs, H b = some (.tup xs) → ¬ M b) : BookX K H1 a dx la d kvs Fp k f n :=
  ⟨s.kp _ _ (dj _ h.fa) h.ins, h.look.keep s nt, s.kp _ _ (dj _ h.fd) h.dic, h.len, h.fa, h.fd, h.non, fun c v hv => by
    obtain ⟨x, sx, e, hx, fx⟩ := h.som c v hv
    exact ⟨x, sx, e, s.kp _ _ (dj _ fx) hx, fx⟩, h.inj, h.ok, fun b hb => by
    obtain ⟨o, ho, m⟩ := h.dom b hb
    exact ⟨o, s.kp _ _ (dj _ hb) ho, m⟩⟩
theorem BookAt.keep {K : PySem.W.Frag} {H H1 : Hp} {a : Addr} {Fp M : Addr → Prop} {k : Lk} {f : BkF} {n : Nat} (h : BookAt K H a Fp k f n) (s : SameX M H H1) (dj : ∀ b, Fp b → ¬ M b) (nt : ∀ b xs, H b = some (.tup xs) → ¬ M b) : BookAt K H1 a Fp k f n := by
  obtain ⟨dx, la, d, kvs, h⟩ := h
  exact ⟨dx, la, d, kvs, h.keep s dj nt⟩
theorem BookAt.same {K : PySem.W.Frag} {H H1 : Hp} {a : Addr} {Fp : Addr → Prop} {k : Lk} {f : BkF} {n : Nat} (h : BookAt K H a Fp k f n) (s : Same H H1) : BookAt K H1 a Fp k f n := h.keep (M := fun _ => False) (SameX.of s) (fun _ _ z => z) fun _ _ _ z => z
theorem BookAt.dom {K : PySem.W.Frag} {H : Hp} {a : Addr} {Fp : Addr → Prop} {k : Lk} {f : BkF} {n : Nat} (h : BookAt K H a Fp k f n) : ∀ b, Fp b → ∃ o, H b = some o ∧ MutO o := by
  obtain ⟨dx, la, d, kvs, h⟩ := h
  exact h.dom
/-- a list's place is in no book -/
theorem BookAt.nl {K : PySem.W.Frag} {H : Hp} {a c : Addr} {Fp : Addr → Prop} {k : Lk} {f : BkF} {n : Nat} {xs : List V} (h : BookAt K H a Fp k f n) (e : H c = some (.lst xs)) : ¬ Fp c := fun z => by
  obtain ⟨o, ho, m⟩ := h.dom _ z
  rw [e] at ho
  cases ho
  exact m.l _ rfl
theorem BookAt.nt {K : PySem.W.Frag} {H : Hp} {a c : Addr} {Fp : Addr → Prop} {k : Lk} {f : BkF} {n : Nat} {xs : List V} (h : BookAt K H a Fp k f n) (e : H c = some (.tup xs)) : ¬ Fp c := fun z => by
  obtain ⟨o, ho, m⟩ := h.dom _ z
  rw [e] at ho
  cases ho
  exact m.t _ rfl
theorem g_dput {σ : St} {H : Hp} {td ty tv : TE} {n : St → Hp → Prop} {rt : VK} {bk ct : St → Hp → Prop} (q : tv σ H fun v H1 => td σ H1 fun x H2 => ty σ H2 fun y H3 => ∃ a H4, x = .ref a ∧ DPut H3 a y v H4 ∧ n σ H4) : sDPut td ty tv ⟨n, rt, bk, ct⟩ σ H := q
theorem g_dnewT {σ : St} {H : Hp} {Q : VK} (q : ∀ p, H p = none → Q (.ref p) (upd H p (.dT []))) : tDNewT σ H Q := q
section
variable (K : PySem.W.Frag) [HasCls K "Book"] [HasNo K "Book" "look"] [HasNo K "Book" "slots"]
def F_Book_init (K : PySem.W.Frag) : V → V → Hp → VK → XK → Prop := fun x y H Q _ => ∃ (a dx la : Addr) (k : Lk), x = .ref a ∧ y = .ref la ∧ H a = some (.ins (He.ga K "Book") dx []) ∧ LookH H la k ∧
  ∀ Fp H', (∀ b, Fp b → b = a ∨ H b = none) → SameX (· = a) H H' → BookAt K H' a Fp k (fresh k.1) 0 → Q .non H'
abbrev sp_Book_init (K : PySem.W.Frag) : Sp := on2 (F_Book_init K)
def t_Book_init (K : PySem.W.Frag) (E : XK) : TS :=
  tSeq (sFld K (tVar 0) (tVar 1) "look")
  (sFld K (tVar 0) (tDNewT) "slots")
theorem pure_Book_init {x y : V} {H : Hp} {Q : VK} {E : XK} (h : F_Book_init K x y H Q E) : t_Book_init K E ⟨fun _ H' => Q .non H', Q, fun _ _ => False, fun _ _ => False⟩ [some x, some y] H := by
  refine Bx.out ?_
  simp (disch := with_unfolding_all
  obtain ⟨a, dx, la, k, rfl, rfl, ha, ⟨b, e1, e2⟩, q⟩ := h
  unfold t_Book_init
  walk_at "go"
  refine g_dnewT fun p np => ?_
  walk_at "go"
  have nla : la ≠ a := ne_kind e1 ha (by intro z; cases z)
  have nba : b ≠ a := ne_kind e2 ha (by intro z; cases z)
  have npH := upd_none np
  have npa : p ≠ a := fun z => by rw [z, upd_same] at np; cases np
  refine q (fun b => b = a ∨ b = p) _ (fun b hb => by rcases hb with rfl | rfl
                                                      · exact .inl rfl
                                                      · exact .inr npH) ((((SameX.refl (M := (· = a)) H).mut (a := a) rfl).new np).mut (a := a) rfl) ⟨dx, la, p, [], ⟨upd_same, ⟨b, ?_, ?_⟩, lk_mut npa upd_same, Nat.le_refl _, .inl rfl, .inr rfl, fun _ _ => rfl, (fun _ _ z => nomatch z), (fun _ _ _ z => nomatch z), fun _ => new0_ok _, ?_⟩⟩
  · exact lk_mut nla (lk_new (lk_mut nla e1) np)
  · exact lk_mut nba (lk_new (lk_mut nba e2) np)
  · rintro b (rfl | rfl)
    · exact ⟨_, upd_same, MutO.ins⟩
    · exact ⟨_, lk_mut npa upd_same, MutO.dT⟩
  ) only [↓Bx.eq]
def F_Book_chance (K : PySem.W.Frag) : V → V → V → Hp → VK → XK → Prop := fun x y z H Q _ => ∃ (a c : Addr) (Fp : Addr → Prop) (k : Lk) (f : BkF) (n : Nat) (ns : List Int) (node : Int), x = .ref a ∧ y = .ref c ∧ z = .int node ∧ BookAt K H a Fp k f n ∧ LkOk k ∧ SqL K H c (ns.map V.int) ∧
  ∀ H', Same H H' → Q (.int (chanceS (f (ctx k.2 ns node)))) H'
abbrev sp_Book_chance (K : PySem.W.Frag) : Sp := on3 (F_Book_chance K)
def t_Book_chance (K : PySem.W.Frag) (E : XK) : TS :=
  tSeq (tAsg (tFun (sp_context_of K) [] (fun _ => E) (tCons (tFld K (tVar 0) "look") (tCons (tVar 1) (tCons (tVar 2) (tNil))))) (gName 3))
  (tSeq (tIfS (tB (tDIn (tVar 3) (tFld K (tVar 0) "slots"))) (tRet (tMth "chance" (orM (one (He.ga K "Even") (sp_Even_chance K)) (orM (one (He.ga K "Quick") (sp_Quick_chance K)) (one (He.ga K "Run") (sp_Run_chance K)))) (fun _ => E) (tDGet (tFld K (tVar 0) "slots") (tVar 3)) (tNil))) (tNext))
  (tRet (tMth "chance" (orM (one (He.ga K "Even") (sp_Even_chance K)) (orM (one (He.ga K "Quick") (sp_Quick_chance K)) (one (He.ga K "Run") (sp_Run_chance K)))) (fun _ => E) (tFun (sp_slot_of K) [] (fun _ => E) (tCons (tOp (rIx K) (tFld K (tVar 0) "look") (tC (.int 0))) (tNil))) (tNil))))
theorem pure_Book_chance {x y z : V} {H : Hp} {Q : VK} {E : XK} (h : F_Book_chance K x y z H Q E) : t_Book_chance K E ⟨fun _ H' => Q .non H', Q, fun _ _ => False, fun _ _ => False⟩ [some x, some y, some z, none] H := by
  refine Bx.out ?_
  simp (disch := with_unfolding_all
  obtain ⟨a, c, Fp, k, f, n, ns, node, rfl, rfl, rfl, ⟨dx, la, d, kvs, B⟩, ok, hc, q⟩ := h
  have ha := B.ins
  unfold t_Book_chance
  walk_at "go"
  refine ⟨la, c, k.1, k.2, ns, node, rfl, rfl, rfl, B.look.at_ ok, hc, fun p H1 np s1 ep => ?_⟩
  generalize ctx k.2 ns node = cx at ep q
  have B1 := B.keep (M := fun _ => False) (SameX.of s1) (fun _ _ z => z) fun _ _ _ z => z
  have ha := B1.ins
  have g : DGet H1 d (.ref p) (valV kvs (kc cx)) := DGet.t B1.dic (by rw [kc_v]; exact ep)
  walk_at "go"
  refine ⟨d, _, rfl, g, ?_⟩
  refine g_ebl ?_
  cases e : valV kvs (kc cx) with
  | none =>
    refine g_ifF ?_
    obtain ⟨b, e1, e2⟩ := B1.look
    walk_at "go"
    refine ⟨k.1, rfl, fun s sx H2 ns2 s2 es => ?_⟩
    refine pick_chance es fun ok w => ?_
    walk_at "go"
    refine ⟨s, sx, _, rfl, es, new0_ok _, w, ?_⟩
    rw [B.non _ e] at q
    exact q _ (Same.trans s1 s2)
  | some v =>
    obtain ⟨s, sx, rfl, es, fs⟩ := B1.som _ _ e
    rw [e] at g
    refine g_ifT ?_
    walk_at "go"
    refine ⟨d, _, rfl, g, ?_⟩
    refine pick_chance es fun ok w => ?_
    walk_at "go"
    exact ⟨s, sx, _, rfl, es, B.ok _, w, q _ s1⟩
  ) only [↓Bx.eq]
def F_Book_seen (K : PySem.W.Frag) : V → V → V → V → Hp → VK → XK → Prop := fun x y z u H Q E => ∃ (a c : Addr) (Fp : Addr → Prop) (k : Lk) (f : BkF) (n : Nat) (ns : List Int) (node : Int), x = .ref a ∧ y = .ref c ∧ z = .int node ∧ BookAt K H a Fp k f n ∧ n ≤ 900000 ∧ LkOk k ∧ SqL K H c (ns.map V.int) ∧ TyW K H u ∧
  (btw 0 1 u = false → E (.ref (He.ga K "NoBit")) none H) ∧ ∀ b : Int, u = .int b → 0 ≤ b → b ≤ 1 → ∀ Fp' H', SameX Fp H H' → (∀ x, Fp' x → Fp x ∨ H x = none) → BookAt K H' a Fp' k (updB f (ctx k.2 ns node) (seenS (f (ctx k.2 ns node)) b)) (n + 1) → Q .non H'
abbrev sp_Book_seen (K : PySem.W.Frag) : Sp := on4 (F_Book_seen K)
def t_Book_seen (K : PySem.W.Frag) (E : XK) : TS :=
  tSeq (tDrop (tFun (sp_checked_bit K) [] (fun _ => E) (tCons (tVar 3) (tNil))))
  (tSeq (tAsg (tFun (sp_context_of K) [] (fun _ => E) (tCons (tFld K (tVar 0) "look") (tCons (tVar 1) (tCons (tVar 2) (tNil))))) (gName 4))
  (tSeq (tIfS (tB (tDNotIn (tVar 4) (tFld K (tVar 0) "slots"))) (sDPut (tFld K (tVar 0) "slots") (tVar 4) (tFun (sp_slot_of K) [] (fun _ => E) (tCons (tOp (rIx K) (tFld K (tVar 0) "look") (tC (.int 0))) (tNil)))) (tNext))
  (tDrop (tMth "seen" (orM (one (He.ga K "Even") (sp_Even_seen K)) (orM (one (He.ga K "Quick") (sp_Quick_seen K)) (one (He.ga K "Run") (sp_Run_seen K)))) (fun _ => E) (tDGet (tFld K (tVar 0) "slots") (tVar 4)) (tCons (tVar 3) (tNil))))))
theorem pure_Book_seen {x y z u : V} {H : Hp} {Q : VK} {E : XK} (h : F_Book_seen K x y z u H Q E) : t_Book_seen K E ⟨fun _ H' => Q .non H', Q, fun _ _ => False, fun _ _ => False⟩ [some x, some y, some z, some u, none] H := by
  refine Bx.out ?_
  simp (disch := with_unfolding_all
  obtain ⟨a, c, Fp, k, f, n, ns, node, rfl, rfl, rfl, ⟨dx, la, d, kvs, B⟩, hn, ok, hc, tu, r, q⟩ := h
  have ha := B.ins
  unfold t_Book_seen
  walk_at "go"
  refine ⟨tu, fun hu => ?_, r⟩
  obtain ⟨b, rfl, b1, b2⟩ := btw_int hu
  have q := q b rfl b1 b2
  walk_at "go"
  refine ⟨la, c, k.1, k.2, ns, node, rfl, rfl, rfl, B.look.at_ ok, hc, fun p H1 np s1 ep => ?_⟩
  generalize ctx k.2 ns node = cx at ep q
  have B1 := B.keep (M := fun _ => False) (SameX.of s1) (fun _ _ z => z) fun _ _ _ z => z
  have ha := B1.ins
  have g : DGet H1 d (.ref p) (valV kvs (kc cx)) := DGet.t B1.dic (by rw [kc_v]; exact ep)
  have tail : ∀ H3 kvs3 (Fp3 : Addr → Prop) s, SameX Fp H H3 → (∀ x, Fp3 x → Fp x ∨ H x = none) → H3 p = some (.tup (cx.map V.int)) → BookX K H3 a dx la d kvs3 Fp3 k f (n + 1) → valV kvs3 (kc cx) = some (.ref s) →
      (tDrop (tMth "seen" (orM (one (He.ga K "Even") (sp_Even_seen K)) (orM (one (He.ga K "Quick") (sp_Quick_seen K)) (one (He.ga K "Run") (sp_Run_seen K)))) (fun _ => E) (tDGet (tFld K (tVar 0) "slots") (tVar 4)) (tCons (tVar 3) (tNil))))
      ⟨fun _ H' => Q .non H', Q, fun _ _ => False, fun _ _ => False⟩ [some (.ref a), some (.ref c), some (.int node), some (.int b), some (.ref p)] H3 := by
    intro H3 kvs3 Fp3 s S grow ep B3 e
    have ha := B3.ins
    obtain ⟨s', sx, es', es, fs⟩ := B3.som _ _ e
    cases es'
    have g : DGet H3 d (.ref p) (some (.ref s)) := by rw [← e]; exact DGet.t B3.dic (by rw [kc_v]; exact ep)
    walk_at "go"
    refine ⟨d, _, rfl, g, ?_⟩
    refine pick_seen es fun ok w => ?_
    walk_at "go"
    refine seen_of K es (B3.ok _) w ⟨b1, b2⟩ ?_
    have nea : a ≠ s := ne_kind ha es book_ne
    have ned : d ≠ s := ne_kind B3.dic es (by intro z; cases hf : f cx <;> (rw [hf] at z; cases z))
    have S4 : SameX Fp H (upd H3 s (slO K sx (seenS (f cx) b))) := by
      rcases grow _ fs with z | z
      · exact S.mut z
      · exact S.newmut z
    refine q Fp3 _ S4 grow ⟨dx, la, d, kvs3, ⟨lk_mut nea B3.ins, ?_, lk_mut ned B3.dic, B3.len, B3.fa, B3.fd, fun c' hc' => ?_, fun c' v hv => ?_, B3.inj, fun c' => ?_, fun x hx => ?_⟩⟩
    · obtain ⟨t, t1, t2⟩ := B3.look
      exact ⟨t, lk_mut (ne_kind t1 es (fun z => MutO.sl.t _ z.symm)) t1, lk_mut (ne_kind t2 es (fun z => MutO.sl.t _ z.symm)) t2⟩
    · unfold updB
      rw [if_neg (fun z => by rw [z, e] at hc'; cases hc')]
      exact B3.non _ hc'
    · obtain ⟨x, xx, rfl, hx, fx⟩ := B3.som _ _ hv
      by_cases z : c' = cx
      · subst z
        rw [e] at hv
        cases hv
        exact ⟨s, sx, rfl, by rw [upd_same]; unfold updB; rw [if_pos rfl], fx⟩
      · have nx : x ≠ s := fun y => z (B3.inj _ _ s (by rw [← y]; exact hv) e)
        exact ⟨x, xx, rfl, by rw [upd_ne nx, hx]; unfold updB; rw [if_neg z], fx⟩
    · unfold updB
      split
      · exact seenS_ok (B3.ok _) ⟨b1, b2⟩
      · exact B3.ok _
    · obtain ⟨o, ho, m⟩ := B3.dom x hx
      by_cases z : x = s
      · exact ⟨_, by rw [z, upd_same], MutO.sl⟩
      · exact ⟨o, lk_mut z ho, m⟩
  walk_at "go"
  refine ⟨d, _, rfl, g, ?_⟩
  refine g_ebl ?_
  cases e : valV kvs (kc cx) with
  | none =>
    refine g_ifT ?_
    obtain ⟨lb, e1, e2⟩ := B1.look
    refine g_dput ?_
    walk_at "go"
    refine ⟨k.1, rfl, fun s sx H2 ns2 s2 es => ?_⟩
    have B2 := B1.keep (M := fun _ => False) (SameX.of s2) (fun _ _ z => z) fun _ _ _ z => z
    have ep := s2 _ _ ep
    have ha := B2.ins
    have S2 := Same.trans s1 s2
    walk_at "go"
    have bl := B.len
    refine ⟨d, _, rfl, DPut.t B2.dic (by rw [kc_v]; exact ep) (Nat.lt_of_le_of_lt (m := 1000000) (by omega) (by decide)), ?_⟩
    have ned : a ≠ d := ne_kind ha B2.dic (by intro z; cases z)
    have nsd : s ≠ d := ne_kind es B2.dic (by intro z; cases hf : new0 k.1 <;> (rw [hf] at z; cases z))
    have ned2 : ∀ {x : Addr} {xs : List V}, H2 x = some (.tup xs) → x ≠ d := fun h => ne_kind h B2.dic (by intro z; cases z)
    have nH : H s = none := s1.free ns2
    refine tail _ _ (fun x => Fp x ∨ x = s) s ((SameX.of S2).mut B.fd) (fun x hx => ?_) (lk_mut (ned2 ep) ep) ⟨lk_mut ned ha, ?_, upd_same, Nat.le_trans (length_putK _ _ _) (by omega), .inl B.fa, .inl B.fd, fun c' hc' => ?_, fun c' v hv => ?_, fun c1 c2 x h1 h2 => ?_, B.ok, fun x hx => ?_⟩ ?_
    · rcases hx with hx | rfl
      · exact .inl hx
      · exact .inr nH
    · obtain ⟨t, t1, t2⟩ := B2.look
      exact ⟨t, lk_mut (ned2 t1) t1, lk_mut (ned2 t2) t2⟩
    · rw [valV_put] at hc'
      split at hc'
      · cases hc'
      · exact B.non _ hc'
    · rw [valV_put] at hv
      split at hv
      · rename_i z
        cases hv
        rw [kc_inj z]
        exact ⟨s, sx, rfl, by rw [upd_ne nsd, es, B.non _ e], .inr rfl⟩
      · obtain ⟨x, xx, rfl, hx, fx⟩ := B2.som _ _ hv
        exact ⟨x, xx, rfl, lk_mut (ne_kind hx B2.dic (by intro z; cases hf : f c' <;> (rw [hf] at z; cases z))) hx, .inl fx⟩
    · rw [valV_put] at h1 h2
      have new : ∀ c', valV kvs (kc c') = some (.ref s) → False := fun c' h' => by
        obtain ⟨x, xx, ex, hx, fx⟩ := B1.som _ _ h'
        cases ex
        rw [hx] at ns2
        cases ns2
      split at h1
      · rename_i z1
        split at h2
        · rename_i z2
          rw [kc_inj z1, kc_inj z2]
        · cases h1
          exact (new _ h2).elim
      · split at h2
        · cases h2
          exact (new _ h1).elim
        · exact B.inj _ _ _ h1 h2
    · rcases hx with hx | rfl
      · obtain ⟨o, ho, m⟩ := B2.dom x hx
        by_cases z : x = d
        · exact ⟨_, by rw [z, upd_same], MutO.dT⟩
        · exact ⟨o, lk_mut z ho, m⟩
      · exact ⟨_, by rw [upd_ne nsd, es], MutO.sl⟩
    · rw [valV_put, if_pos rfl]
  | some v =>
    refine g_ifF ?_
    obtain ⟨s, sx, rfl, es, fs⟩ := B1.som _ _ e
    refine g_next ?_
    exact tail H1 kvs Fp s (SameX.of s1) (fun x hx => .inl hx) ep ⟨B1.ins, B1.look, B1.dic, Nat.le_succ_of_le B1.len, B1.fa, B1.fd, B1.non, B1.som, B1.inj, B1.ok, B1.dom⟩ e
  ) only [↓Bx.eq]
end
/-! a mixer's shares -/
def dotS (ws cs : List Int) : Int := (List.zipWith (fun w c => w * c) ws cs).sum
def mixedS (ws cs : List Int) : Int := dotS ws cs / ws.sum
def partsS (ws cs : List Int) (b : Int) : List Int := List.zipWith (fun w c => w * gave c b) ws cs
def grownS (ps : List Int) : List Int := ps.map fun p => 31 * (ps.length : Int) * p + ps.sum
def overS (s : Int) : Int := if ((Builtin.Int.intBits s : Nat) : Int) - 48 > 0 then ((Builtin.Int.intBits s : Nat) : Int) - 48 else 0
def cutS (gs : List Int) : List Int := gs.map fun g => g / 2 ^ (overS gs.sum).toNat
def learnS (ws cs : List Int) (b : Int) : List Int := cutS (grownS (partsS ws cs b))
structure MOk (m : Nat) (ws : List Int) : Prop where
  len : ws.length = m
  m1 : 1 ≤ m
  m6 : m ≤ 6
  pos : ∀ w ∈ ws, 1 ≤ w
  sum : ws.sum < 281474976710656
structure COk (m : Nat) (cs : List Int) : Prop where
  len : cs.length = m
  all : ∀ c ∈ cs, 32768 ≤ c ∧ c ≤ 16744448
theorem sum_ge : ∀ {l : List Int}, (∀ x ∈ l, 1 ≤ x) → (l.length : Int) ≤ l.sum ∧ ∀ x ∈ l, x ≤ l.sum
  | [], _ => ⟨by simp, fun x h => nomatch h⟩
  | y :: l, h => by
    obtain ⟨a, b⟩ := sum_ge (l := l) fun x hx => h x (List.mem_cons_of_mem _ hx)
    have y1 := h y List.mem_cons_self
    refine ⟨by simp only [List.length_cons, List.sum_cons]; omega, fun x hx => ?_⟩
    rw [List.sum_cons]
    rcases List.mem_cons.mp hx with rfl | hx
    · omega
    · have := b x hx; omega
theorem sum_aff (a b : Int) : ∀ l : List Int, (l.map fun p => a * p + b).sum = a * l.sum + (l.length : Int) * b
  | [] => by simp
  | p :: l => by
    rw [List.map_cons, List.sum_cons, sum_aff a b l, List.sum_cons, List.length_cons, Int.mul_add]
    have : ((l.length + 1 : Nat) : Int) * b = (l.length : Int) * b + b := by rw [Int.natCast_add, Int.add_mul]; simp
    rw [this]
    omega
theorem sum_div (d : Int) (hd : 0 < d) : ∀ l : List Int, (l.map fun g => g / d).sum * d ≤ l.sum
  | [] => by simp
  | g :: l => by
    rw [List.map_cons, List.sum_cons, List.sum_cons, Int.add_mul]
    have := sum_div d hd l
    have := Int.ediv_mul_le g (Int.ne_of_gt hd)
    omega
theorem gave_ok {c b : Int} (h : 32768 ≤ c ∧ c ≤ 16744448) : 32768 ≤ gave c b ∧ gave c b ≤ 16744448 := by
  unfold gave
  split <;> omega
theorem zip_all {P Q R : Int → Prop} {f : Int → Int → Int} (hf : ∀ w c, P w → Q c → R (f w c)) : ∀ {ws cs : List Int}, (∀ w ∈ ws, P w) → (∀ c ∈ cs, Q c) → ∀ x ∈ List.zipWith f ws cs, R x
  | [], _, _, _, x, h => by simp at h
  | _ :: _, [], _, _, x, h => by simp at h
  | w :: ws, c :: cs, hw, hc, x, h => by
    rw [List.zipWith_cons_cons] at h
    rcases List.mem_cons.mp h with rfl | h
    · exact hf _ _ (hw _ List.mem_cons_self) (hc _ List.mem_cons_self)
    · exact zip_all hf (fun w h => hw w (List.mem_cons_of_mem _ h)) (fun c h => hc c (List.mem_cons_of_mem _ h)) x h
theorem parts_ok {m : Nat} {ws cs : List Int} (b : Int) (w : MOk m ws) (c : COk m cs) : (partsS ws cs b).length = m ∧ ∀ p ∈ partsS ws cs b, 1 ≤ p := by
  refine ⟨by unfold partsS; rw [List.length_zipWith, w.len, c.len]; omega, ?_⟩
  refine zip_all (P := fun w => 1 ≤ w) (Q := fun c => 32768 ≤ c ∧ c ≤ 16744448) (R := fun p => 1 ≤ p) (fun w c hw hc => ?_) w.pos c.all
  have := (gave_ok (b := b) hc).1
  have := Int.mul_le_mul hw this (by omega) (by omega)
  omega
theorem bits_pos {s : Int} (h : 0 < s) : 2 ^ (Builtin.Int.intBits s - 1) ≤ s ∧ s < 2 ^ Builtin.Int.intBits s ∧ 1 ≤ Builtin.Int.intBits s := by
  have e : Builtin.Int.intBits s = s.natAbs.log2 + 1 := by
    unfold Builtin.Int.intBits
    rw [if_neg (by simp; omega)]
  rw [e, Nat.add_sub_cancel]
  have hn : s.natAbs ≠ 0 := by omega
  have a := Nat.log2_self_le hn
  have b := (Nat.log2_lt (n := s.natAbs) (k := s.natAbs.log2 + 1) hn).mp (Nat.lt_succ_self _)
  have c : ∀ k : Nat, (2 : Int) ^ k = ((2 ^ k : Nat) : Int) := fun k => by simp
  rw [c, c]
  refine ⟨by omega, by omega, by omega⟩
/-- halved as often as is needed, no oftener -/
theorem over_ok {s : Int} (h : 0 < s) : s < 281474976710656 * 2 ^ (overS s).toNat ∧ (overS s ≠ 0 → 140737488355328 * 2 ^ (overS s).toNat ≤ s) ∧ 0 ≤ overS s := by
  obtain ⟨a, b, c⟩ := bits_pos h
  unfold overS
  generalize Builtin.Int.intBits s = k at a b c
  by_cases z : (k : Int) - 48 > 0
  · rw [if_pos z]
    have e : ((k : Int) - 48).toNat = k - 48 := by omega
    rw [e]
    have p1 : (2 : Int) ^ k = 281474976710656 * 2 ^ (k - 48) := by
      rw [show (281474976710656 : Int) = 2 ^ 48 from rfl, ← Int.pow_add]
      congr 1; omega
    have p2 : (2 : Int) ^ (k - 1) = 140737488355328 * 2 ^ (k - 48) := by
      rw [show (140737488355328 : Int) = 2 ^ 47 from rfl, ← Int.pow_add]
      congr 1; omega
    rw [← p1, ← p2]
    exact ⟨b, fun _ => a, by omega⟩
  · rw [if_neg z]
    refine ⟨?_, fun z => absurd rfl z, Int.le_refl _⟩
    have p : (2 : Int) ^ k ≤ 2 ^ 48 := by
      have c : ∀ k : Nat, (2 : Int) ^ k = ((2 ^ k : Nat) : Int) := fun k => by simp
      rw [c, c]
      exact Int.ofNat_le.mpr (Nat.pow_le_pow_right (by decide) (by omega))
    have : (2 : Int) ^ 48 = 281474976710656 := by decide
    simp
    omega
theorem grown_sum (ps : List Int) : (grownS ps).sum = 32 * (ps.length : Int) * ps.sum := by
  unfold grownS
  rw [sum_aff]
  rw [Int.mul_assoc, Int.mul_assoc]
  omega
theorem learn_ok {m : Nat} {ws cs : List Int} {b : Int} (w : MOk m ws) (c : COk m cs) : MOk m (learnS ws cs b) := by
  obtain ⟨pl, pp⟩ := parts_ok b w c
  unfold learnS
  generalize partsS ws cs b = ps at pl pp
  obtain ⟨s1, s2⟩ := sum_ge pp
  have m1 := w.m1
  have m6 := w.m6
  have gs := grown_sum ps
  have W : 1 ≤ ps.sum := by omega
  have S : 0 < (grownS ps).sum := by
    rw [gs, pl]
    exact Int.mul_pos (by omega) (by omega)
  obtain ⟨o1, o2, o3⟩ := over_ok S
  have hd : (0 : Int) < 2 ^ (overS (grownS ps).sum).toNat := Int.pow_pos (by decide)
  refine ⟨?_, m1, m6, fun x hx => ?_, ?_⟩
  · unfold cutS grownS
    rw [List.length_map, List.length_map, pl]
  · unfold cutS at hx
    obtain ⟨g, hg, rfl⟩ := List.mem_map.mp hx
    refine Int.le_ediv_of_mul_le hd ?_
    rw [Int.one_mul]
    have hW : ps.sum ≤ g := by
      unfold grownS at hg
      obtain ⟨p, hp, rfl⟩ := List.mem_map.mp hg
      have := pp p hp
      have : 0 ≤ 31 * (ps.length : Int) * p := Int.mul_nonneg (by omega) (by omega)
      omega
    by_cases z : overS (grownS ps).sum = 0
    · rw [z]
      have : (2 : Int) ^ (0 : Int).toNat = 1 := rfl
      omega
    · have o2 := o2 z
      have k : (grownS ps).sum ≤ 192 * ps.sum := by
        rw [gs]
        exact Int.mul_le_mul_of_nonneg_right (by omega) (by omega)
      generalize (2 : Int) ^ (overS (grownS ps).sum).toNat = d at o2 hd
      omega
  · unfold cutS
    have := sum_div _ hd (grownS ps)
    generalize (2 : Int) ^ (overS (grownS ps).sum).toNat = d at this o1 hd
    have : ((grownS ps).map fun g => g / d).sum * d < 281474976710656 * d := by omega
    exact Int.lt_of_mul_lt_mul_right this (by omega)
def MixAt (K : PySem.W.Frag) (H : Hp) (a dx : Addr) (ws : List Int) : Prop := ∃ p, H a = some (.ins (He.ga K "Mixer") dx [("shares", .ref p)]) ∧ H p = some (.lst (ws.map V.int))
theorem MixAt.same {K : PySem.W.Frag} {H H1 : Hp} {a dx : Addr} {ws : List Int} (h : MixAt K H a dx ws) (s : Same H H1) : MixAt K H1 a dx ws := by
  obtain ⟨p, h1, h2⟩ := h
  exact ⟨p, s _ _ h1, s _ _ h2⟩
theorem MixAt.keep {K : PySem.W.Frag} {M : Addr → Prop} {H H1 : Hp} {a dx : Addr} {ws : List Int} (h : MixAt K H a dx ws) (s : SameX M H H1) (na : ¬ M a) (nl : ∀ p xs, H p = some (.lst xs) → ¬ M p) : MixAt K H1 a dx ws := by
  obtain ⟨p, h1, h2⟩ := h
  exact ⟨p, s.kp _ _ na h1, s.kp _ _ (nl _ _ h2) h2⟩
theorem cdw48 {i j : Int} (h : 0 < j) (h2 : j < 281474976710656) : CDivW i j := ⟨h, by
  have : j.natAbs.log2 < 48 := (Nat.log2_lt (by omega)).mpr (by omega)
  omega⟩
theorem dot_take {ws cs : List Int} {i : Nat} {w c : Int} (f : Int → Int → Int) (hw : ws[i]? = some w) (hc : cs[i]? = some c) : List.zipWith f (ws.take (i + 1)) (cs.take (i + 1)) = List.zipWith f (ws.take i) (cs.take i) ++ [f w c] := by
  have h1 := (List.getElem?_eq_some_iff.mp hw).1
  have h2 := (List.getElem?_eq_some_iff.mp hc).1
  rw [List.take_add_one, List.take_add_one, hw, hc, List.zipWith_append (by simp only [List.length_take]; omega)]
  rfl
theorem zip_ints (g : Int → Int → Int) : ∀ ws cs : List Int, List.zipWith (fun w c => V.int (g w c)) ws cs = (List.zipWith g ws cs).map V.int
  | [], _ => by simp
  | _ :: _, [] => by simp
  | w :: ws, c :: cs => by rw [List.zipWith_cons_cons, List.zipWith_cons_cons, List.map_cons, zip_ints g ws cs]
/-! a mixer: its deeds, where its shares stand -/
structure MixP (K : PySem.W.Frag) (H : Hp) (a dx p : Addr) (ws : List Int) : Prop where
  ins : H a = some (.ins (He.ga K "Mixer") dx [("shares", .ref p)])
  lst : H p = some (.lst (ws.map V.int))
theorem MixP.at_ {K : PySem.W.Frag} {H : Hp} {a dx p : Addr} {ws : List Int} (h : MixP K H a dx p ws) : MixAt K H a dx ws := ⟨p, h.ins, h.lst⟩
theorem MixP.same {K : PySem.W.Frag} {H H1 : Hp} {a dx p : Addr} {ws : List Int} (h : MixP K H a dx p ws) (s : Same H H1) : MixP K H1 a dx p ws := ⟨s _ _ h.ins, s _ _ h.lst⟩
section
variable (K : PySem.W.Frag) [HasCls K "Mixer"] [HasNo K "Mixer" "shares"]
def F_Mixer_init (K : PySem.W.Frag) : V → V → Hp → VK → XK → Prop := fun x y H Q _ => ∃ (a dx : Addr) (m : Nat), x = .ref a ∧ y = .int m ∧ m ≤ 6 ∧ H a = some (.ins (He.ga K "Mixer") dx []) ∧
  ∀ p H', H p = none → SameX (· = a) H H' → MixP K H' a dx p (List.replicate m 1099511627776) → Q .non H'
abbrev sp_Mixer_init (K : PySem.W.Frag) : Sp := on2 (F_Mixer_init K)
theorem rep1' {n : Nat} {b : Int} : (List.replicate n [V.int b]).flatten = (List.replicate n b).map V.int := by
  rw [List.map_replicate]
  induction n with
  | zero => rfl
  | succ n ih => rw [List.replicate_succ, List.flatten_cons, ih]; rfl
def t_Mixer_init (K : PySem.W.Frag) (E : XK) : TS :=
  sFld K (tVar 0) (tOp (rTimes) (tLst (tCons (tC (.int 1099511627776)) (tNil))) (tVar 1)) "shares"
theorem pure_Mixer_init {x y : V} {H : Hp} {Q : VK} {E : XK} (h : F_Mixer_init K x y H Q E) : t_Mixer_init K E ⟨fun _ H' => Q .non H', Q, fun _ _ => False, fun _ _ => False⟩ [some x, some y] H := by
  refine Bx.out ?_
  simp (disch := with_unfolding_all
  obtain ⟨a, dx, m, rfl, rfl, m6, ha, q⟩ := h
  unfold t_Mixer_init
  walk_at "go"
  intro l nl
  walk_at "go"
  refine g_rep upd_same (by omega) (by omega) (Nat.le_trans (m := 1000000) (by simp only [List.length_cons, List.length_nil]; omega) (by decide)) ?_
  intro p np
  rw [Int.toNat_natCast, rep1']
  have ha1 := lk_new (u := .lst ((List.replicate m (1099511627776 : Int)).map V.int)) (lk_new (u := .lst [.int 1099511627776]) ha nl) np
  have npa : p ≠ a := fun e => by rw [e, lk_new ha nl] at np; cases np
  walk_at "go"
  exact q p _ (upd_none np) (((SameX.of (Same.refl H)).new nl |>.new np).mut rfl) ⟨upd_same, lk_mut npa upd_same⟩
  ) only [↓Bx.eq]
def F_Mixer_weights (K : PySem.W.Frag) : V → Hp → VK → XK → Prop := fun x H Q _ => ∃ (a dx : Addr) (ws : List Int), x = .ref a ∧ MixAt K H a dx ws ∧ ∀ l, H l = none → Q (.ref l) (upd H l (.lst (ws.map V.int)))
abbrev sp_Mixer_weights (K : PySem.W.Frag) : Sp := on1 (F_Mixer_weights K)
def t_Mixer_weights (K : PySem.W.Frag) (E : XK) : TS :=
  tRet (tCB (rListOf K) (tCons (tFld K (tVar 0) "shares") (tNil)))
theorem pure_Mixer_weights {x : V} {H : Hp} {Q : VK} {E : XK} (h : F_Mixer_weights K x H Q E) : t_Mixer_weights K E ⟨fun _ H' => Q .non H', Q, fun _ _ => False, fun _ _ => False⟩ [some x] H := by
  obtain ⟨a, dx, ws, rfl, ⟨p, ha, hp⟩, q⟩ := h
  unfold t_Mixer_weights
  walk_at "go"
  exact q
def F_Mixer_mixed (K : PySem.W.Frag) : V → V → Hp → VK → XK → Prop := fun x y H Q _ => ∃ (a dx b : Addr) (ws cs : List Int) (m : Nat), x = .ref a ∧ y = .ref b ∧ MixAt K H a dx ws ∧ SqL K H b (cs.map V.int) ∧ MOk m ws ∧ COk m cs ∧ ∀ H', Same H H' → Q (.int (mixedS ws cs)) H'
abbrev sp_Mixer_mixed (K : PySem.W.Frag) : Sp := on2 (F_Mixer_mixed K)
def t_Mixer_mixed (K : PySem.W.Frag) (E : XK) : TS :=
  tSeq (tAsg (tC (.int 0)) (gName 2))
  (tSeq (tFor (iZip K (tCons (tFld K (tVar 0) "shares") (tCons (tVar 1) (tNil)))) (gTup K 2 (gCons (gName 3) (gCons (gName 4) (gNil)))) (tAug 2 (tOp (rTimes) (tVar 3) (tVar 4)) (ipI fun i j => i + j)))
  (tRet (tOp (rFloor) (tVar 2) (tCB (rSum K) (tCons (tFld K (tVar 0) "shares") (tNil))))))
theorem pure_Mixer_mixed {x y : V} {H : Hp} {Q : VK} {E : XK} (h : F_Mixer_mixed K x y H Q E) : t_Mixer_mixed K E ⟨fun _ H' => Q .non H', Q, fun _ _ => False, fun _ _ => False⟩ [some x, some y, none, none, none] H := by
  refine Bx.out ?_
  simp (disch := with_unfolding_all
  obtain ⟨a, dx, b, ws, cs, m, rfl, rfl, ⟨p, ha, hp⟩, hb, w, c, q⟩ := h
  obtain ⟨s1, s2⟩ := sum_ge w.pos
  have sm := w.sum
  have m1 := w.m1
  unfold t_Mixer_mixed
  walk_at "go"
  refine for_ZI (sq_of hp) hb (by rw [w.len, c.len]) (fun i σ H1 => ∃ u1 u2, σ = [some (.ref a), some (.ref b), some (.int (dotS (ws.take i) (cs.take i))), u1, u2] ∧ Same H H1) ⟨_, _, rfl, Same.refl _⟩ ?_ ?_ ?_
  · rintro i σ H1 ⟨u1, u2, rfl, s⟩
    exact ⟨sq_of (s _ _ hp), s.seq hb⟩
  · rintro i z d σ H1 T hz hd nT ⟨u1, u2, rfl, s⟩
    obtain ⟨d1, d2⟩ := c.all d (List.mem_of_getElem? hd)
    walk_at "go"
    refine ⟨some (.int z), some (.int d), ?_, same_new s nT⟩
    unfold dotS
    rw [dot_take _ hz hd, List.sum_append, List.sum_cons, List.sum_nil, Int.add_zero]
  · rintro σ H1 ⟨u1, u2, rfl, s⟩
    have wl := w.len
    rw [List.take_length, List.take_of_length_le (by rw [w.len, c.len]; exact Nat.le_refl _)]
    have ha1 := s _ _ ha
    walk_at "go"
    refine g_sum (ns := ws) (sq_of (s _ _ hp)) ?_
    walk_at "go"
    exact g_floor (cdw48 (by omega) sm) (q _ s)
  ) only [↓Bx.eq]
def F_Mixer_learn (K : PySem.W.Frag) : V → V → V → Hp → VK → XK → Prop := fun x y z H Q E => ∃ (a dx b : Addr) (ws cs : List Int) (m : Nat), x = .ref a ∧ y = .ref b ∧ MixAt K H a dx ws ∧ SqL K H b (cs.map V.int) ∧ MOk m ws ∧ COk m cs ∧ TyW K H z ∧
  (btw 0 1 z = false → E (.ref (He.ga K "NoBit")) none H) ∧ ∀ (t : Int), z = .int t → 0 ≤ t → t ≤ 1 → ∀ p H', H p = none → SameX (· = a) H H' → MixP K H' a dx p (learnS ws cs t) → Q .non H'
abbrev sp_Mixer_learn (K : PySem.W.Frag) : Sp := on3 (F_Mixer_learn K)
def t_Mixer_learn (K : PySem.W.Frag) (E : XK) : TS :=
  tSeq (tAsg (tFun (sp_checked_bit K) [] (fun _ => E) (tCons (tVar 2) (tNil))) (gName 3))
  (tSeq (tAsg (tLc (iZip K (tCons (tFld K (tVar 0) "shares") (tCons (tVar 1) (tNil)))) (gTup K 2 (gCons (gName 9) (gCons (gName 10) (gNil)))) (tYes) (tOp (rTimes) (tVar 9) (tFun (sp_gives K) [] (fun _ => E0) (tCons (tVar 10) (tCons (tVar 3) (tNil))))) [9, 10]) (gName 4))
  (tSeq (tAsg (tCB (rSum K) (tCons (tVar 4) (tNil))) (gName 5))
  (tSeq (tAsg (tCB (rLength K) (tCons (tVar 4) (tNil))) (gName 6))
  (tSeq (tAsg (tLc (iList K (tVar 4)) (gName 11) (tYes) (tOp (rPlus K) (tOp (rTimes) (tOp (rTimes) (tC (.int 31)) (tVar 6)) (tVar 11)) (tVar 5)) [11]) (gName 7))
  (tSeq (tAsg (tCB (rGreatest K) (tCons (tC (.int 0)) (tCons (tOp (rMinus) (tBits (tCB (rSum K) (tCons (tVar 7) (tNil)))) (tC (.int 48))) (tNil)))) (gName 8))
  (sFld K (tVar 0) (tLc (iList K (tVar 7)) (gName 12) (tYes) (tOp (rRsh) (tVar 12) (tVar 8)) [12]) "shares"))))))
theorem pure_Mixer_learn {x y z : V} {H : Hp} {Q : VK} {E : XK} (h : F_Mixer_learn K x y z H Q E) : t_Mixer_learn K E ⟨fun _ H' => Q .non H', Q, fun _ _ => False, fun _ _ => False⟩ [some x, some y, some z, none, none, none, none, none, none, none, none, none, none] H := by
  refine Bx.out ?_
  simp (disch := with_unfolding_all
  obtain ⟨a, dx, b, ws, cs, m, rfl, rfl, ⟨p, ha, hp⟩, hb, w, c, tz, r, q⟩ := h
  unfold t_Mixer_learn
  walk_at "go"
  refine ⟨tz, fun hz => ?_, r⟩
  obtain ⟨t, rfl, t1, t2⟩ := btw_int hz
  have q := q t rfl t1 t2
  obtain ⟨pl, pp⟩ := parts_ok t w c
  have m6 := w.m6
  walk_at "go"
  refine lc_ZI (sq_of hp) hb (by rw [w.len, c.len]) (by decide) (fun w c => .int (w * gave c t)) (by rw [w.len]; omega) (fun v d hv hd H2 Q2 s2 k => ?_) fun D H2 nD s2 eD => ?_
  · obtain ⟨d1, d2⟩ := c.all d hd
    walk_at "go"
    refine gives_of ⟨d1, d2⟩ ⟨t1, t2⟩ ?_
    have g1 := gave_ok (b := t) ⟨d1, d2⟩
    refine g_mul (.inr ⟨by omega, by omega⟩) ?_
    exact k _ (Same.refl _)
  · have eD : H2 D = some (.lst ((partsS ws cs t).map V.int)) := by rw [eD, zip_ints]; rfl
    unfold learnS at q
    generalize partsS ws cs t = ps at pl pp eD q
    walk_at "go"
    refine g_sum (ns := ps) (sq_of eD) ?_
    walk_at "go"
    rw [List.length_map]
    refine lc_LI (ns := ps) (sq_of eD) (fun z => .int (31 * (ps.length : Int) * z + ps.sum)) (by omega) (fun z hz D2 H3 Q3 s3 k => ?_) fun D2 H3 nD2 s3 eD2 => ?_
    · walk_at "go"
      exact k _ (Same.refl _)
    · have eD2 : H3 D2 = some (.lst ((grownS ps).map V.int)) := by rw [eD2]; unfold grownS; rw [List.map_map]; rfl
      have gl : (grownS ps).length = m := by unfold grownS; rw [List.length_map, pl]
      walk_at "go"
      refine g_sum (ns := grownS ps) (sq_of eD2) ?_
      walk_at "go"
      rw [show (if ((Builtin.Int.intBits (grownS ps).sum : Nat) : Int) - 48 > 0 then ((Builtin.Int.intBits (grownS ps).sum : Nat) : Int) - 48 else 0) = overS (grownS ps).sum from rfl]
      have o3 : 0 ≤ overS (grownS ps).sum := by unfold overS; split <;> omega
      walk_at "go"
      refine lc_LI (ns := grownS ps) (sq_of eD2) (fun z => .int (z / 2 ^ (overS (grownS ps).sum).toNat)) (by omega) (fun z hz D3 H4 Q4 s4 k => ?_) fun D3 H4 nD3 s4 eD3 => ?_
      · walk_at "go"
        refine g_rsh o3 ?_
        exact k _ (Same.refl _)
      · have eD3 : H4 D3 = some (.lst ((cutS (grownS ps)).map V.int)) := by rw [eD3]; unfold cutS; rw [List.map_map]; rfl
        have S4 : Same H H4 := Same.trans (Same.trans s2 s3) s4
        have ha4 := S4 _ _ ha
        have nDa : D3 ≠ a := ne_kind eD3 ha4 (by intro e; cases e)
        walk_at "go"
        exact q D3 _ ((Same.trans s2 s3).free nD3) ((SameX.of S4).mut rfl) ⟨upd_same, lk_mut nDa eD3⟩
  ) only [↓Bx.eq]
end
/-! a foreteller: books, a mixer, the text so far -/
theorem dot_bounds : ∀ {ws cs : List Int}, ws.length = cs.length → (∀ w ∈ ws, 1 ≤ w) → (∀ c ∈ cs, 32768 ≤ c ∧ c ≤ 16744448) → 32768 * ws.sum ≤ dotS ws cs ∧ dotS ws cs ≤ 16744448 * ws.sum
  | [], [], _, _, _ => by simp [dotS]
  | [], _ :: _, h, _, _ => by simp at h
  | _ :: _, [], h, _, _ => by simp at h
  | w :: ws, c :: cs, hl, hw, hc => by
    have ih := dot_bounds (ws := ws) (cs := cs) (by simpa using hl) (fun w h => hw w (List.mem_cons_of_mem _ h)) (fun c h => hc c (List.mem_cons_of_mem _ h))
    have w1 := hw w List.mem_cons_self
    have c1 := hc c List.mem_cons_self
    unfold dotS at ih ⊢
    rw [List.zipWith_cons_cons, List.sum_cons, List.sum_cons, Int.mul_add, Int.mul_add]
    have a : w * 32768 ≤ w * c := Int.mul_le_mul_of_nonneg_left c1.1 (by omega)
    have b : w * c ≤ w * 16744448 := Int.mul_le_mul_of_nonneg_left c1.2 (by omega)
    omega
theorem mixed_ok {m : Nat} {ws cs : List Int} (w : MOk m ws) (c : COk m cs) : 32768 ≤ mixedS ws cs ∧ mixedS ws cs ≤ 16744448 := by
  have s := (sum_ge w.pos).1
  have m1 := w.m1
  have wl := w.len
  obtain ⟨a, b⟩ := dot_bounds (by rw [w.len, c.len]) w.pos c.all
  unfold mixedS
  have p : 0 < ws.sum := by omega
  exact ⟨Int.le_ediv_of_mul_le p a, by
    have : dotS ws cs / ws.sum < 16744449 := Int.ediv_lt_of_lt_mul p (by omega)
    omega⟩
theorem sum_const (b : Int) (n : Nat) : (List.replicate n b).sum = b * (n : Int) := by
  induction n with
  | zero => simp
  | succ n ih => rw [List.replicate_succ, List.sum_cons, ih, Int.natCast_add, Int.mul_add]; simp; omega
theorem rep_ok {m : Nat} (h1 : 1 ≤ m) (h6 : m ≤ 6) : MOk m (List.replicate m 1099511627776) := by
  refine ⟨List.length_replicate, h1, h6, fun w h => ?_, ?_⟩
  · have := List.eq_of_mem_replicate h
    omega
  · rw [sum_const]
    omega
theorem chanceS_ok {s : Sl} (h : SlOk s) : 32768 ≤ chanceS s ∧ chanceS s ≤ 16744448 := by
  cases s with
  | even n o =>
    obtain ⟨h0, h1, h2⟩ := h
    have p : (0 : Int) < 2 * (n + o) + 2 := by omega
    refine ⟨Int.le_ediv_of_mul_le p (by omega), ?_⟩
    have : (2 * o + 1) * 16777216 / (2 * (n + o) + 2) < 16744449 := Int.ediv_lt_of_lt_mul p (by omega)
    show (2 * o + 1) * 16777216 / (2 * (n + o) + 2) ≤ 16744448
    omega
  | quick h' => exact h
  | run b l =>
    obtain ⟨h0, h1, h2, h3⟩ := h
    have p : (0 : Int) < 2 * l + 2 := by omega
    have a : 32768 ≤ (2 * l + 1) * 16777216 / (2 * l + 2) := Int.le_ediv_of_mul_le p (by omega)
    have c : (2 * l + 1) * 16777216 / (2 * l + 2) < 16744449 := Int.ediv_lt_of_lt_mul p (by omega)
    rw [chanceS_run]
    split <;> omega
/-! ### what it knows -/
structure Fst where
  bk : Nat → BkF
  ws : List Int
  ended : List Int
  place : Int
def st0 (ks : List Lk) : Fst := ⟨fun i => fresh (ks.getD i ("", [])).1, List.replicate ks.length 1099511627776, [], 0⟩
def chancesF (ks : List Lk) (st : Fst) : List Int := ks.mapIdx fun i k => chanceS (st.bk i (ctx k.2 st.ended st.place))
def chanceF (ks : List Lk) (st : Fst) : Int := mixedS st.ws (chancesF ks st)
def goE (en : List Int) (pl b : Int) : List Int := if pl > 0 then (if 2 * pl + b > 255 then en ++ [2 * pl + b - 256] else en) else if b = 1 then en else []
def goP (pl b : Int) : Int := if pl > 0 then (if 2 * pl + b > 255 then 0 else 2 * pl + b) else if b = 1 then 1 else pl
def bkS (ks : List Lk) (st : Fst) (b : Int) (i : Nat) : BkF := match ks[i]? with
  | some k => updB (st.bk i) (ctx k.2 st.ended st.place) (seenS (st.bk i (ctx k.2 st.ended st.place)) b)
  | none => st.bk i
def seeF (ks : List Lk) (st : Fst) (b : Int) : Fst := ⟨bkS ks st b, learnS st.ws (chancesF ks st) b, goE st.ended st.place b, goP st.place b⟩
def stF (ks : List Lk) (bits : List Int) : Fst := bits.foldl (seeF ks) (st0 ks)
theorem stF_snoc (ks : List Lk) (bits : List Int) (b : Int) : stF ks (bits ++ [b]) = seeF ks (stF ks bits) b := by unfold stF; rw [List.foldl_append]; rfl
structure FOk (ks : List Lk) (st : Fst) (n : Nat) : Prop where
  mok : MOk ks.length st.ws
  pl : 0 ≤ st.place ∧ st.place ≤ 255
  en : st.ended.length ≤ n
  sl : ∀ i c, SlOk (st.bk i c)
def Bits (bs : List Int) : Prop := ∀ b ∈ bs, 0 ≤ b ∧ b ≤ 1
theorem cokF {ks : List Lk} {st : Fst} {n : Nat} (h : FOk ks st n) : COk ks.length (chancesF ks st) := by
  refine ⟨by unfold chancesF; rw [List.length_mapIdx], fun c hc => ?_⟩
  unfold chancesF at hc
  obtain ⟨i, hi, e⟩ := List.mem_iff_getElem.mp hc
  rw [List.getElem_mapIdx] at e
  rw [← e]
  exact chanceS_ok (h.sl _ _)
theorem FOk.chance {ks : List Lk} {st : Fst} {n : Nat} (h : FOk ks st n) : 32768 ≤ chanceF ks st ∧ chanceF ks st ≤ 16744448 := mixed_ok h.mok (cokF h)
theorem FOk.see {ks : List Lk} {st : Fst} {n : Nat} {b : Int} (h : FOk ks st n) (hb : 0 ≤ b ∧ b ≤ 1) : FOk ks (seeF ks st b) (n + 1) := by
  refine ⟨learn_ok h.mok (cokF h), ?_, ?_, fun i c => ?_⟩
  · have := h.pl
    show 0 ≤ goP st.place b ∧ goP st.place b ≤ 255
    unfold goP
    split
    · split <;> omega
    · split <;> omega
  · have := h.en
    show (goE st.ended st.place b).length ≤ n + 1
    unfold goE
    split
    · split
      · rw [List.length_append, List.length_singleton]; omega
      · omega
    · split
      · omega
      · simp
  · show SlOk (bkS ks st b i c)
    unfold bkS
    cases ks[i]? with
    | none => exact h.sl _ _
    | some k =>
      show SlOk (updB (st.bk i) (ctx k.2 st.ended st.place) (seenS (st.bk i (ctx k.2 st.ended st.place)) b) c)
      unfold updB
      split
      · exact seenS_ok (h.sl _ _) hb
      · exact h.sl _ _
theorem fok0 {ks : List Lk} (h : LksOk ks) : FOk ks (st0 ks) 0 := ⟨rep_ok h.l1 h.l6, by show (0 : Int) ≤ 0 ∧ (0 : Int) ≤ 255; decide, Nat.le_refl _, fun _ _ => new0_ok _⟩
theorem fokF {ks : List Lk} (h : LksOk ks) : ∀ {bits : List Int}, Bits bits → FOk ks (stF ks bits) bits.length := by
  have key : ∀ (bits : List Int) (st : Fst) (n : Nat), FOk ks st n → Bits bits → FOk ks (bits.foldl (seeF ks) st) (n + bits.length) := by
    intro bits
    induction bits with
    | nil => intro st n hs _; exact hs
    | cons b bits ih =>
      intro st n hs hb
      have := ih _ (n + 1) (hs.see (hb b List.mem_cons_self)) fun x hx => hb x (List.mem_cons_of_mem _ hx)
      rw [List.length_cons]
      have e : n + (bits.length + 1) = n + 1 + bits.length := by omega
      rw [e]
      exact this
  intro bits hb
  have := key bits _ 0 (fok0 h) hb
  rwa [Nat.zero_add] at this
/-! ### as it stands -/
structure BooksAt (K : PySem.W.Frag) (H : Hp) (bas : List Addr) (Fps : Nat → Addr → Prop) (g : Nat → BkF) (ks : List Lk) (n : Nat → Nat) : Prop where
  boo : ∀ i b k, bas[i]? = some b → ks[i]? = some k → BookAt K H b (Fps i) k (g i) (n i)
  dj : ∀ i j b, i ≠ j → Fps i b → Fps j b → False
  dom : ∀ i b, Fps i b → ∃ o, H b = some o ∧ MutO o
theorem BooksAt.keep {K : PySem.W.Frag} {H H1 : Hp} {bas : List Addr} {Fps : Nat → Addr → Prop} {M : Addr → Prop} {g : Nat → BkF} {ks : List Lk} {n : Nat → Nat} (h : BooksAt K H bas Fps g ks n) (s : SameX M H H1) (dj : ∀ i b, Fps i b → ¬ M b) (nt : ∀ b xs, H b = some (.tup xs) → ¬ M b) : BooksAt K H1 bas Fps g ks n :=
  ⟨fun i b k hb hk => (h.boo i b k hb hk).keep s (dj i) nt, h.dj, fun i b hb => by
    obtain ⟨o, ho, m⟩ := h.dom i b hb
    exact ⟨o, s.kp _ _ (dj _ _ hb) ho, m⟩⟩
theorem BooksAt.same {K : PySem.W.Frag} {H H1 : Hp} {bas : List Addr} {Fps : Nat → Addr → Prop} {g : Nat → BkF} {ks : List Lk} {n : Nat → Nat} (h : BooksAt K H bas Fps g ks n) (s : Same H H1) : BooksAt K H1 bas Fps g ks n := h.keep (M := fun _ => False) (SameX.of s) (fun _ _ _ z => z) fun _ _ _ z => z
abbrev foreF (k bl mx en : Addr) (pl : Int) (pa : Addr) : List (Str × V) := [("kinds", .ref k), ("books", .ref bl), ("mixer", .ref mx), ("ended", .ref en), ("place", .int pl), ("past", .ref pa)]
structure ForX (K : PySem.W.Frag) (H : Hp) (a dx k bl mx mdx sh en pa : Addr) (las bas : List Addr) (Fps : Nat → Addr → Prop) (Fp : Addr → Prop) (ks : List Lk) (st : Fst) (past : List Int) : Prop where
  ins : H a = some (.ins (He.ga K "Foreteller") dx (foreF k bl mx en st.place pa))
  kin : LooksH H k las ks
  bks : H bl = some (.lst (bas.map V.ref))
  bln : bas.length = ks.length
  boo : BooksAt K H bas Fps st.bk ks fun _ => past.length
  mix : MixP K H mx mdx sh st.ws
  end_ : H en = some (.lst (st.ended.map V.int))
  pas : H pa = some (.lst (past.map V.int))
  own : ∀ i b, Fps i b → b ≠ a ∧ b ≠ mx
  nam : a ≠ mx
  nep : en ≠ pa
  nek : en ≠ k ∧ en ≠ bl ∧ en ≠ sh
  npk : pa ≠ k ∧ pa ≠ bl ∧ pa ≠ sh
  cov : Fp a ∧ Fp k ∧ Fp bl ∧ Fp mx ∧ Fp sh ∧ Fp en ∧ Fp pa
  covb : ∀ i b, Fps i b → Fp b
  dom : ∀ b, Fp b → ∃ o, H b = some o ∧ ∀ xs, o ≠ .tup xs
def ForAt (K : PySem.W.Frag) (H : Hp) (a : Addr) (Fp : Addr → Prop) (ks : List Lk) (bits : List Int) : Prop := ∃ dx k bl mx mdx sh en pa las bas Fps, ForX K H a dx k bl mx mdx sh en pa las bas Fps Fp ks (stF ks bits) bits
theorem ForX.keep {K : PySem.W.Frag} {H H1 : Hp} {a dx k bl mx mdx sh en pa : Addr} {las bas : List Addr} {Fps : Nat → Addr → Prop} {Fp M : Addr → Prop} {ks : List Lk} {st : Fst} {past : List Int} (h : ForX K H a dx k bl mx mdx sh en pa las bas Fps Fp ks st past) (s : SameX M H H1) (dj : ∀ b, Fp b → ¬ M b) (nt : ∀ b xs, H b = some (.tup xs) → ¬ M b) :
    ForX K H1 a dx k bl mx mdx sh en pa las bas Fps Fp ks st past := by
  obtain ⟨c1, c2, c3, c4, c5, c6, c7⟩ := h.cov
  exact ⟨s.kp _ _ (dj _ c1) h.ins, ⟨s.kp _ _ (dj _ c2) h.kin.lst, h.kin.len, fun i x y hx hy => (h.kin.at_ i x y hx hy).keep s nt⟩, s.kp _ _ (dj _ c3) h.bks, h.bln, h.boo.keep s (fun i b hb => dj b (h.covb i b hb)) nt, ⟨s.kp _ _ (dj _ c4) h.mix.ins, s.kp _ _ (dj _ c5) h.mix.lst⟩,
    s.kp _ _ (dj _ c6) h.end_, s.kp _ _ (dj _ c7) h.pas, h.own, h.nam, h.nep, h.nek, h.npk, h.cov, h.covb, fun b hb => by
    obtain ⟨o, ho, m⟩ := h.dom b hb
    exact ⟨o, s.kp _ _ (dj _ hb) ho, m⟩⟩
theorem ForAt.keep {K : PySem.W.Frag} {H H1 : Hp} {a : Addr} {Fp M : Addr → Prop} {ks : List Lk} {bits : List Int} (h : ForAt K H a Fp ks bits) (s : SameX M H H1) (dj : ∀ b, Fp b → ¬ M b) (nt : ∀ b xs, H b = some (.tup xs) → ¬ M b) : ForAt K H1 a Fp ks bits := by
  obtain ⟨dx, k, bl, mx, mdx, sh, en, pa, las, bas, Fps, h⟩ := h
  exact ⟨dx, k, bl, mx, mdx, sh, en, pa, las, bas, Fps, h.keep s dj nt⟩
theorem ForX.same {K : PySem.W.Frag} {H H1 : Hp} {a dx k bl mx mdx sh en pa : Addr} {las bas : List Addr} {Fps : Nat → Addr → Prop} {Fp : Addr → Prop} {ks : List Lk} {st : Fst} {past : List Int} (h : ForX K H a dx k bl mx mdx sh en pa las bas Fps Fp ks st past) (s : Same H H1) :
    ForX K H1 a dx k bl mx mdx sh en pa las bas Fps Fp ks st past := h.keep (M := fun _ => False) (SameX.of s) (fun _ _ z => z) fun _ _ _ z => z
theorem ForAt.same {K : PySem.W.Frag} {H H1 : Hp} {a : Addr} {Fp : Addr → Prop} {ks : List Lk} {bits : List Int} (h : ForAt K H a Fp ks bits) (s : Same H H1) : ForAt K H1 a Fp ks bits := h.keep (M := fun _ => False) (SameX.of s) (fun _ _ z => z) fun _ _ _ z => z
theorem ForAt.dom {K : PySem.W.Frag} {H : Hp} {a : Addr} {Fp : Addr → Prop} {ks : List Lk} {bits : List Int} (h : ForAt K H a Fp ks bits) : ∀ b, Fp b → ∃ o, H b = some o ∧ ∀ xs, o ≠ .tup xs := by
  obtain ⟨dx, k, bl, mx, mdx, sh, en, pa, las, bas, Fps, h⟩ := h
  exact h.dom
theorem ForAt.nt {K : PySem.W.Frag} {H : Hp} {a : Addr} {Fp : Addr → Prop} {ks : List Lk} {bits : List Int} (h : ForAt K H a Fp ks bits) : ∀ b xs, H b = some (.tup xs) → ¬ Fp b := fun b xs e z => by
  obtain ⟨o, ho, m⟩ := h.dom _ z
  rw [e] at ho
  cases ho
  exact m _ rfl
theorem ForAt.fa {K : PySem.W.Frag} {H : Hp} {a : Addr} {Fp : Addr → Prop} {ks : List Lk} {bits : List Int} (h : ForAt K H a Fp ks bits) : Fp a := by
  obtain ⟨dx, k, bl, mx, mdx, sh, en, pa, las, bas, Fps, h⟩ := h
  exact h.cov.1
theorem fore_one {K : PySem.W.Frag} {H : Hp} {a : Addr} {Fp : Addr → Prop} {ks : List Lk} {bits : List Int} {m : Str} {sp : Sp} {A : Sp → Prop} (h : ForAt K H a Fp ks bits) (hm : ∀ k bl mx en pl pa, List.lookup m (foreF k bl mx en pl pa) = none) (q : A sp) : mthK m (one (He.ga K "Foreteller") sp) (.ref a) H A := by
  obtain ⟨dx, k, bl, mx, mdx, sh, en, pa, las, bas, Fps, h⟩ := h
  exact g_one h.ins (hm _ _ _ _ _ _) q
/-! ### its deeds -/
theorem chancesF_at {ks : List Lk} {st : Fst} {i : Nat} {k : Lk} (h : ks[i]? = some k) : (chancesF ks st)[i]? = some (chanceS (st.bk i (ctx k.2 st.ended st.place))) := by
  unfold chancesF
  rw [List.getElem?_mapIdx, h]
  rfl
section
variable (K : PySem.W.Frag) [HasCls K "Foreteller"] [HasNo K "Foreteller" "kinds"] [HasNo K "Foreteller" "books"] [HasNo K "Foreteller" "mixer"] [HasNo K "Foreteller" "ended"] [HasNo K "Foreteller" "place"] [HasNo K "Foreteller" "past"]
def F_Foreteller_chances (K : PySem.W.Frag) : V → Hp → VK → XK → Prop := fun x H Q _ => ∃ (a : Addr) (Fp : Addr → Prop) (ks : List Lk) (bits : List Int), x = .ref a ∧ ForAt K H a Fp ks bits ∧ LksOk ks ∧ Bits bits ∧
  ∀ l H', H l = none → Same H H' → H' l = some (.lst ((chancesF ks (stF ks bits)).map V.int)) → Q (.ref l) H'
abbrev sp_Foreteller_chances (K : PySem.W.Frag) : Sp := on1 (F_Foreteller_chances K)
def t_Foreteller_chances (K : PySem.W.Frag) (E : XK) : TS :=
  tRet (tLc (iList K (tFld K (tVar 0) "books")) (gName 1) (tYes) (tMth "chance" (one (He.ga K "Book") (sp_Book_chance K)) (fun _ => E0) (tVar 1) (tCons (tFld K (tVar 0) "ended") (tCons (tFld K (tVar 0) "place") (tNil)))) [1])
theorem pure_Foreteller_chances {x : V} {H : Hp} {Q : VK} {E : XK} (h : F_Foreteller_chances K x H Q E) : t_Foreteller_chances K E ⟨fun _ H' => Q .non H', Q, fun _ _ => False, fun _ _ => False⟩ [some x, none] H := by
  refine Bx.out ?_
  simp (disch := with_unfolding_all
  obtain ⟨a, Fp, ks, bits, rfl, ⟨dx, k, bl, mx, mdx, sh, en, pa, las, bas, Fps, X⟩, ok, hb, q⟩ := h
  have ha := X.ins
  have l6 := ok.l6
  have bn := X.bln
  unfold t_Foreteller_chances
  walk_at "go"
  have cl : (chancesF ks (stF ks bits)).length = ks.length := by unfold chancesF; rw [List.length_mapIdx]
  refine lc_LN (sq_of X.bks) (by rw [List.length_map]; omega) (fun D i ys H2 => H D = none ∧ Same H H2 ∧ H2 D = some (.lst ys) ∧ ys = ((chancesF ks (stF ks bits)).take i).map V.int ∧ i ≤ ks.length) (fun D hD => ⟨hD, same_new (Same.refl _) hD, upd_same, rfl, Nat.zero_le _⟩) ?_ ?_ ?_
  · rintro D i ys H2 ⟨hD, s, eD, rfl, hi⟩
    exact ⟨sq_of (s _ _ X.bks), eD, by rw [List.length_map, List.length_take]; omega⟩
  · rintro D i v ys H2 Q2 hv ⟨hD, s, eD, rfl, hi⟩ q2
    obtain ⟨b, hb', rfl⟩ := map_at hv
    have hi := (List.getElem?_eq_some_iff.mp hb').1
    have hk : ks[i]? = some (ks[i]'(by omega)) := List.getElem?_eq_getElem (by omega)
    generalize ks[i]'(by omega) = kk at hk
    have X2 := X.same s
    have ha2 := X2.ins
    have B := X2.boo.boo i b kk hb' hk
    obtain ⟨bx, bla, bd, bkv, BX⟩ := B
    have hbi := BX.ins
    walk_at "go"
    refine ⟨b, en, Fps i, kk, _, _, _, _, rfl, rfl, rfl, ⟨bx, bla, bd, bkv, BX⟩, ok.all _ (List.mem_of_getElem? hk), sq_of X2.end_, fun H3 s3 => ?_⟩
    refine q2 _ _ (s3 _ _ eD) ⟨hD, same_mut (Same.trans s s3) hD, upd_same, ?_, by omega⟩
    rw [List.take_add_one, chancesF_at hk, List.map_append]
    rfl
  · rintro D ys H3 ⟨hD, s, eD, rfl, -⟩
    rw [List.length_map, List.take_of_length_le (by omega)] at eD
    exact q D H3 hD s eD
  ) only [↓Bx.eq]
def F_Foreteller_chance (K : PySem.W.Frag) : V → Hp → VK → XK → Prop := fun x H Q _ => ∃ (a : Addr) (Fp : Addr → Prop) (ks : List Lk) (bits : List Int), x = .ref a ∧ ForAt K H a Fp ks bits ∧ LksOk ks ∧ Bits bits ∧ ∀ H', Same H H' → Q (.int (chanceF ks (stF ks bits))) H'
abbrev sp_Foreteller_chance (K : PySem.W.Frag) : Sp := on1 (F_Foreteller_chance K)
def t_Foreteller_chance (K : PySem.W.Frag) (E : XK) : TS :=
  tRet (tMth "mixed" (one (He.ga K "Mixer") (sp_Mixer_mixed K)) (fun _ => E) (tFld K (tVar 0) "mixer") (tCons (tMth "chances" (one (He.ga K "Foreteller") (sp_Foreteller_chances K)) (fun _ => E) (tVar 0) (tNil)) (tNil)))
theorem pure_Foreteller_chance {x : V} {H : Hp} {Q : VK} {E : XK} (h : F_Foreteller_chance K x H Q E) : t_Foreteller_chance K E ⟨fun _ H' => Q .non H', Q, fun _ _ => False, fun _ _ => False⟩ [some x] H := by
  refine Bx.out ?_
  simp (disch := with_unfolding_all
  obtain ⟨a, Fp, ks, bits, rfl, A, ok, hb, q⟩ := h
  have A' := A
  obtain ⟨dx, k, bl, mx, mdx, sh, en, pa, las, bas, Fps, X⟩ := A
  have ha := X.ins
  have hm := X.mix.ins
  unfold t_Foreteller_chance
  walk_at "go"
  refine ⟨a, Fp, ks, bits, rfl, A', ok, hb, fun l H1 nl s1 el => ?_⟩
  have X1 := X.same s1
  walk_at "go"
  have f := fokF ok hb
  exact ⟨mx, mdx, l, _, _, ks.length, rfl, rfl, X1.mix.at_, sq_of el, f.mok, cokF f, fun H2 s2 => q _ (Same.trans s1 s2)⟩
  ) only [↓Bx.eq]
def F_Foreteller_weights (K : PySem.W.Frag) : V → Hp → VK → XK → Prop := fun x H Q _ => ∃ (a : Addr) (Fp : Addr → Prop) (ks : List Lk) (bits : List Int), x = .ref a ∧ ForAt K H a Fp ks bits ∧ ∀ l H', H l = none → Same H H' → H' l = some (.lst ((stF ks bits).ws.map V.int)) → Q (.ref l) H'
abbrev sp_Foreteller_weights (K : PySem.W.Frag) : Sp := on1 (F_Foreteller_weights K)
def t_Foreteller_weights (K : PySem.W.Frag) (E : XK) : TS :=
  tRet (tMth "weights" (one (He.ga K "Mixer") (sp_Mixer_weights K)) (fun _ => E) (tFld K (tVar 0) "mixer") (tNil))
theorem pure_Foreteller_weights {x : V} {H : Hp} {Q : VK} {E : XK} (h : F_Foreteller_weights K x H Q E) : t_Foreteller_weights K E ⟨fun _ H' => Q .non H', Q, fun _ _ => False, fun _ _ => False⟩ [some x] H := by
  refine Bx.out ?_
  simp (disch := with_unfolding_all
  obtain ⟨a, Fp, ks, bits, rfl, ⟨dx, k, bl, mx, mdx, sh, en, pa, las, bas, Fps, X⟩, q⟩ := h
  have ha := X.ins
  have hm := X.mix.ins
  unfold t_Foreteller_weights
  walk_at "go"
  exact ⟨mx, mdx, _, rfl, X.mix.at_, fun l nl => q l _ nl (same_new (Same.refl _) nl) upd_same⟩
  ) only [↓Bx.eq]
def F_Foreteller_node (K : PySem.W.Frag) : V → Hp → VK → XK → Prop := fun x H Q _ => ∃ (a : Addr) (Fp : Addr → Prop) (ks : List Lk) (bits : List Int), x = .ref a ∧ ForAt K H a Fp ks bits ∧ Q (.int (stF ks bits).place) H
abbrev sp_Foreteller_node (K : PySem.W.Frag) : Sp := on1 (F_Foreteller_node K)
def t_Foreteller_node (K : PySem.W.Frag) (E : XK) : TS :=
  tRet (tFld K (tVar 0) "place")
theorem pure_Foreteller_node {x : V} {H : Hp} {Q : VK} {E : XK} (h : F_Foreteller_node K x H Q E) : t_Foreteller_node K E ⟨fun _ H' => Q .non H', Q, fun _ _ => False, fun _ _ => False⟩ [some x] H := by
  refine Bx.out ?_
  simp (disch := with_unfolding_all
  obtain ⟨a, Fp, ks, bits, rfl, ⟨dx, k, bl, mx, mdx, sh, en, pa, las, bas, Fps, X⟩, q⟩ := h
  have ha := X.ins
  unfold t_Foreteller_node
  walk_at "go"
  exact q
  ) only [↓Bx.eq]
def F_Foreteller_signs (K : PySem.W.Frag) : V → Hp → VK → XK → Prop := fun x H Q _ => ∃ (a : Addr) (Fp : Addr → Prop) (ks : List Lk) (bits : List Int), x = .ref a ∧ ForAt K H a Fp ks bits ∧ ∀ l H', H l = none → Same H H' → H' l = some (.lst ((stF ks bits).ended.map V.int)) → Q (.ref l) H'
abbrev sp_Foreteller_signs (K : PySem.W.Frag) : Sp := on1 (F_Foreteller_signs K)
def t_Foreteller_signs (K : PySem.W.Frag) (E : XK) : TS :=
  tRet (tCB (rListOf K) (tCons (tFld K (tVar 0) "ended") (tNil)))
theorem pure_Foreteller_signs {x : V} {H : Hp} {Q : VK} {E : XK} (h : F_Foreteller_signs K x H Q E) : t_Foreteller_signs K E ⟨fun _ H' => Q .non H', Q, fun _ _ => False, fun _ _ => False⟩ [some x] H := by
  refine Bx.out ?_
  simp (disch := with_unfolding_all
  obtain ⟨a, Fp, ks, bits, rfl, ⟨dx, k, bl, mx, mdx, sh, en, pa, las, bas, Fps, X⟩, q⟩ := h
  have ha := X.ins
  have he := X.end_
  unfold t_Foreteller_signs
  walk_at "go"
  intro l nl
  exact q l _ nl (same_new (Same.refl _) nl) upd_same
  ) only [↓Bx.eq]
def F_Foreteller_go (K : PySem.W.Frag) : V → V → Hp → VK → XK → Prop := fun x y H Q _ => ∃ (a dx k bl mx en pa : Addr) (ended : List Int) (pl b : Int), x = .ref a ∧ y = .int b ∧ H a = some (.ins (He.ga K "Foreteller") dx (foreF k bl mx en pl pa)) ∧ H en = some (.lst (ended.map V.int)) ∧ ended.length ≤ 900000 ∧
  ∀ en' H', SameX (fun x => x = a ∨ x = en) H H' → (en' = en ∨ H en' = none) → H' a = some (.ins (He.ga K "Foreteller") dx (foreF k bl mx en' (goP pl b) pa)) → H' en' = some (.lst ((goE ended pl b).map V.int)) → Q .non H'
abbrev sp_Foreteller_go (K : PySem.W.Frag) : Sp := on2 (F_Foreteller_go K)
def t_Foreteller_go (K : PySem.W.Frag) (E : XK) : TS :=
  tIfS (tTest (tOp (iGt) (tFld K (tVar 0) "place") (tC (.int 0)))) (tSeq (sFld K (tVar 0) (tOp (rPlus K) (tOp (rTimes) (tC (.int 2)) (tFld K (tVar 0) "place")) (tVar 1)) "place")
  (tIfS (tTest (tOp (iGt) (tFld K (tVar 0) "place") (tC (.int 255)))) (tSeq (tDrop (tBM K "list" (rAppend) (tFld K (tVar 0) "ended") (tCons (tOp (rMinus) (tFld K (tVar 0) "place") (tC (.int 256))) (tNil))))
  (sFld K (tVar 0) (tC (.int 0)) "place")) (tNext))) (tIfS (tTest (tOp (rSame K) (tVar 1) (tC (.int 1)))) (sFld K (tVar 0) (tC (.int 1)) "place") (sFld K (tVar 0) (tLst (tNil)) "ended"))
theorem pure_Foreteller_go {x y : V} {H : Hp} {Q : VK} {E : XK} (h : F_Foreteller_go K x y H Q E) : t_Foreteller_go K E ⟨fun _ H' => Q .non H', Q, fun _ _ => False, fun _ _ => False⟩ [some x, some y] H := by
  refine Bx.out ?_
  simp (disch := with_unfolding_all
  obtain ⟨a, dx, k, bl, mx, en, pa, ended, pl, b, rfl, rfl, ha, he, hl, q⟩ := h
  have nea : en ≠ a := ne_kind he ha (by intro z; cases z)
  unfold goP goE at q
  unfold t_Foreteller_go
  walk_at "go"
  refine dif (fun h1 => ?_) fun h1 => ?_
  · rw [if_pos h1, if_pos h1] at q
    walk_at "go"
    refine dif (fun h2 => ?_) fun h2 => ?_
    · rw [if_pos h2, if_pos h2] at q
      have he2 := lk_mut (u := .ins (He.ga K "Foreteller") dx (foreF k bl mx en (2 * pl + b) pa)) nea he
      have ha2 := upd_same (H := H) (a := a) (o := .ins (He.ga K "Foreteller") dx (foreF k bl mx en (2 * pl + b) pa))
      have S : SameX (fun x => x = a ∨ x = en) H (upd H a (.ins (He.ga K "Foreteller") dx (foreF k bl mx en (2 * pl + b) pa))) := (SameX.refl H).mut (.inl rfl)
      generalize upd H a (.ins (He.ga K "Foreteller") dx (foreF k bl mx en (2 * pl + b) pa)) = H2 at he2 ha2 S
      walk_at "go"
      have ha3 := lk_mut (u := .lst (ended.map V.int ++ [.int (2 * pl + b - 256)])) nea.symm ha2
      have S := S.mut (a := en) (o := .lst (ended.map V.int ++ [.int (2 * pl + b - 256)])) (.inr rfl)
      have he3 := upd_same (H := H2) (a := en) (o := .lst (ended.map V.int ++ [.int (2 * pl + b - 256)]))
      generalize upd H2 en (.lst (ended.map V.int ++ [.int (2 * pl + b - 256)])) = H3 at he3 ha3 S
      walk_at "go"
      exact q en _ (S.mut (.inl rfl)) (.inl rfl) upd_same (by rw [upd_ne nea, he3, List.map_append]; rfl)
    · rw [if_neg h2, if_neg h2] at q
      walk_at "go"
      exact q en _ ((SameX.refl H).mut (.inl rfl)) (.inl rfl) upd_same (lk_mut nea he)
  · rw [if_neg h1, if_neg h1] at q
    walk_at "go"
    refine dif (fun h2 => ?_) fun h2 => ?_
    · rw [if_pos h2, if_pos h2] at q
      walk_at "go"
      exact q en _ ((SameX.refl H).mut (.inl rfl)) (.inl rfl) upd_same (lk_mut nea he)
    · rw [if_neg h2, if_neg h2] at q
      walk_at "go"
      intro l nl
      have nla : l ≠ a := fun z => by rw [z, ha] at nl; cases nl
      walk_at "go"
      exact q l _ (((SameX.refl H).new nl).mut (.inl rfl)) (.inr nl) upd_same (by rw [upd_ne nla, upd_same]; rfl)
  ) only [↓Bx.eq]
end
/-! a foreteller sees; is made; forks -/
theorem SameX.grow {M N : Addr → Prop} {H H1 H2 : Hp} (s : SameX M H H1) (t : SameX N H1 H2) (h : ∀ x, N x → M x ∨ H x = none) : SameX M H H2 :=
  ⟨fun b o n e => t.kp b o (fun m => by
    rcases h b m with z | z
    · exact n z
    · rw [e] at z; cases z) (s.kp b o n e), fun b e => s.dm b (t.dm b e)⟩
section
variable (K : PySem.W.Frag) [HasCls K "Foreteller"] [HasNo K "Foreteller" "kinds"] [HasNo K "Foreteller" "books"] [HasNo K "Foreteller" "mixer"] [HasNo K "Foreteller" "ended"] [HasNo K "Foreteller" "place"] [HasNo K "Foreteller" "past"]
def F_Foreteller_see (K : PySem.W.Frag) : V → V → Hp → VK → XK → Prop := fun x y H Q E => ∃ (a : Addr) (Fp : Addr → Prop) (ks : List Lk) (bits : List Int), x = .ref a ∧ ForAt K H a Fp ks bits ∧ LksOk ks ∧ Bits bits ∧ bits.length ≤ 800000 ∧ TyW K H y ∧
  (btw 0 1 y = false → E (.ref (He.ga K "NoBit")) none H) ∧ ∀ b : Int, y = .int b → 0 ≤ b → b ≤ 1 → ∀ Fp' H', SameX Fp H H' → (∀ x, Fp' x → Fp x ∨ H x = none) → ForAt K H' a Fp' ks (bits ++ [b]) → Q .non H'
abbrev sp_Foreteller_see (K : PySem.W.Frag) : Sp := on2 (F_Foreteller_see K)
def t_Foreteller_see (K : PySem.W.Frag) (E : XK) : TS :=
  tSeq (tAsg (tFun (sp_checked_bit K) [] (fun _ => E) (tCons (tVar 1) (tNil))) (gName 2))
  (tSeq (tAsg (tMth "chances" (one (He.ga K "Foreteller") (sp_Foreteller_chances K)) (fun _ => E) (tVar 0) (tNil)) (gName 3))
  (tSeq (tFor (iList K (tFld K (tVar 0) "books")) (gName 4) (tDrop (tMth "seen" (one (He.ga K "Book") (sp_Book_seen K)) (fun _ => E) (tVar 4) (tCons (tFld K (tVar 0) "ended") (tCons (tFld K (tVar 0) "place") (tCons (tVar 2) (tNil)))))))
  (tSeq (tDrop (tMth "learn" (one (He.ga K "Mixer") (sp_Mixer_learn K)) (fun _ => E) (tFld K (tVar 0) "mixer") (tCons (tVar 3) (tCons (tVar 2) (tNil)))))
  (tSeq (tDrop (tBM K "list" (rAppend) (tFld K (tVar 0) "past") (tCons (tVar 2) (tNil))))
  (tDrop (tMth "go" (one (He.ga K "Foreteller") (sp_Foreteller_go K)) (fun _ => E) (tVar 0) (tCons (tVar 2) (tNil))))))))
theorem pure_Foreteller_see {x y : V} {H : Hp} {Q : VK} {E : XK} (h : F_Foreteller_see K x y H Q E) : t_Foreteller_see K E ⟨fun _ H' => Q .non H', Q, fun _ _ => False, fun _ _ => False⟩ [some x, some y, none, none, none] H := by
  refine Bx.out ?_
  simp (disch := with_unfolding_all
  obtain ⟨a, Fp, ks, bits, rfl, A, ok, hbs, hn, ty, r, q⟩ := h
  have A0 := A
  obtain ⟨dx, k, bl, mx, mdx, sh, en, pa, las, bas, Fps, X⟩ := A
  have ha := X.ins
  have f := fokF ok hbs
  have l6 := ok.l6
  have bn := X.bln
  unfold t_Foreteller_see
  walk_at "go"
  refine ⟨ty, fun hy => ?_, r⟩
  obtain ⟨b, rfl, b1, b2⟩ := btw_int hy
  have q := q b rfl b1 b2
  have st_s := stF_snoc ks bits b
  walk_at "go"
  refine ⟨a, Fp, ks, bits, rfl, A0, ok, hbs, fun l H1 nl s1 el => ?_⟩
  have q : ∀ Fp' H', SameX Fp H H' → (∀ x, Fp' x → Fp x ∨ H x = none) → (∃ dx k bl mx mdx sh en pa las bas Fps, ForX K H' a dx k bl mx mdx sh en pa las bas Fps Fp' ks (seeF ks (stF ks bits) b) (bits ++ [b])) → Q .non H' := fun Fp' H' s g h => q Fp' H' s g (by unfold ForAt; rw [st_s]; exact h)
  have X1 := X.same s1
  generalize stF ks bits = st at f el X1 q st_s X ha
  have ha1 := X1.ins
  have hen := f.en
  clear A0 ha
  walk_at "go"
  have nlB : ∀ {c : Addr} {xs : List V}, H1 c = some (.lst xs) → ¬ ∃ j, Fps j c := fun e ⟨j, z⟩ => by
    obtain ⟨o, ho, m⟩ := X1.boo.dom _ _ z
    rw [e] at ho
    cases ho
    exact m.l _ rfl
  have naB : ¬ ∃ j, Fps j a := fun ⟨j, z⟩ => (X1.own j a z).1 rfl
  have nmB : ¬ ∃ j, Fps j mx := fun ⟨j, z⟩ => (X1.own j mx z).2 rfl
  refine for_L (sq_of X1.bks) (fun i σ H2 => ∃ u Fps', σ = [some (.ref a), some (.int b), some (.int b), some (.ref l), u] ∧ SameX (fun x => ∃ j, Fps j x) H1 H2 ∧ BooksAt K H2 bas Fps' (fun j => if j < i then bkS ks st b j else st.bk j) ks (fun j => if j < i then bits.length + 1 else bits.length) ∧ ∀ j x, Fps' j x → Fps j x ∨ H1 x = none) ?_ ?_ ?_ ?_
  · refine ⟨_, Fps, rfl, SameX.refl _, ?_, fun j x h => .inl h⟩
    have e1 : (fun j => if j < 0 then bkS ks st b j else st.bk j) = st.bk := by funext j; rw [if_neg (Nat.not_lt_zero _)]
    have e2 : (fun j => if j < 0 then bits.length + 1 else bits.length) = fun _ => bits.length := by funext j; rw [if_neg (Nat.not_lt_zero _)]
    rw [e1, e2]
    exact X1.boo
  · rintro i σ H2 ⟨u, Fps', rfl, s, -, -⟩
    exact sq_of (s.kp _ _ (nlB X1.bks) X1.bks)
  · rintro i v σ H2 hv ⟨u, Fps', rfl, s, B, g⟩
    obtain ⟨ba, hba, rfl⟩ := map_at hv
    have hi := (List.getElem?_eq_some_iff.mp hba).1
    have hk : ks[i]? = some (ks[i]'(by omega)) := List.getElem?_eq_getElem (by omega)
    generalize ks[i]'(by omega) = kk at hk
    have ha2 := s.kp _ _ naB ha1
    have he2 := s.kp _ _ (nlB X1.end_) X1.end_
    have Bi := B.boo i ba kk hba hk
    rw [if_neg (Nat.lt_irrefl _), if_neg (Nat.lt_irrefl _)] at Bi
    have Bi0 := Bi
    obtain ⟨bx, bla, bd, bkv, BX⟩ := Bi
    have hbi := BX.ins
    walk_at "go"
    refine ⟨ba, en, Fps' i, kk, _, _, _, _, rfl, rfl, rfl, Bi0, by omega, ok.all _ (List.mem_of_getElem? hk), sq_of he2, .int, (fun z => by rw [hy] at z; cases z), fun b' e' _ _ Fp2 H3 s3 g3 B3 => ?_⟩
    cases e'
    walk_at "go"
    refine ⟨_, fun j => if j = i then Fp2 else Fps' j, rfl, s.grow s3 fun x hx => ?_, ⟨fun j b' k' hb' hk' => ?_, fun j j' x hne h1 h2 => ?_, fun j x hx => ?_⟩, fun j x hx => ?_⟩
    · rcases g i x hx with z | z
      · exact .inl ⟨i, z⟩
      · exact .inr z
    · by_cases z : j = i
      · subst z
        rw [hba] at hb'
        rw [hk] at hk'
        cases hb'
        cases hk'
        rw [if_pos rfl, if_pos (Nat.lt_succ_self _), if_pos (Nat.lt_succ_self _)]
        unfold bkS
        rw [hk]
        exact B3
      · have Bj := B.boo j b' k' hb' hk'
        have e1 : (if j < i + 1 then bkS ks st b j else st.bk j) = if j < i then bkS ks st b j else st.bk j := by
          by_cases y : j < i
          · rw [if_pos y, if_pos (by omega)]
          · rw [if_neg y, if_neg (by omega)]
        have e2 : (if j < i + 1 then bits.length + 1 else bits.length) = if j < i then bits.length + 1 else bits.length := by
          by_cases y : j < i
          · rw [if_pos y, if_pos (by omega)]
          · rw [if_neg y, if_neg (by omega)]
        rw [if_neg z, e1, e2]
        exact Bj.keep s3 (fun x hx hx' => B.dj j i x z hx hx') fun x xs hx hx' => Bi0.nt hx hx'
    · have new : ∀ j, j ≠ i → Fps' j x → Fp2 x → False := fun j hj h1 h2 => by
        rcases g3 x h2 with z | z
        · exact B.dj j i x hj h1 z
        · obtain ⟨o, ho, _⟩ := B.dom j x h1
          rw [z] at ho
          cases ho
      by_cases z1 : j = i
      · rw [if_pos z1] at h1
        by_cases z2 : j' = i
        · exact hne (by rw [z1, z2])
        · rw [if_neg z2] at h2
          exact new _ z2 h2 h1
      · rw [if_neg z1] at h1
        by_cases z2 : j' = i
        · rw [if_pos z2] at h2
          exact new _ z1 h1 h2
        · rw [if_neg z2] at h2
          exact B.dj _ _ _ hne h1 h2
    · have hx : (if j = i then Fp2 else Fps' j) x := hx
      by_cases z : j = i
      · rw [if_pos z] at hx
        exact B3.dom x hx
      · rw [if_neg z] at hx
        obtain ⟨o, ho, m⟩ := B.dom j x hx
        exact ⟨o, s3.kp _ _ (fun y => B.dj j i x z hx y) ho, m⟩
    · have hx : (if j = i then Fp2 else Fps' j) x := hx
      by_cases z : j = i
      · rw [if_pos z] at hx
        rcases g3 x hx with y | y
        · rw [z]; exact g i x y
        · exact .inr (s.dm _ y)
      · rw [if_neg z] at hx
        exact g j x hx
  · rintro σ H2 ⟨u, Fps2, rfl, s, B, g⟩
    rw [List.length_map] at B
    have B : BooksAt K H2 bas Fps2 (bkS ks st b) ks fun _ => bits.length + 1 := ⟨fun i b' k' hb' hk' => by
      have hi := (List.getElem?_eq_some_iff.mp hb').1
      have z := B.boo i b' k' hb' hk'
      rw [if_pos hi, if_pos hi] at z
      exact z, B.dj, B.dom⟩
    have ha2 := s.kp _ _ naB ha1
    have he2 := s.kp _ _ (nlB X1.end_) X1.end_
    have hp2 := s.kp _ _ (nlB X1.pas) X1.pas
    have hk2 := s.kp _ _ (nlB X1.kin.lst) X1.kin.lst
    have hb2 := s.kp _ _ (nlB X1.bks) X1.bks
    have hm2 := s.kp _ _ nmB X1.mix.ins
    have hs2 := s.kp _ _ (nlB X1.mix.lst) X1.mix.lst
    have el2 := s.kp _ _ (nlB el) el
    have ntB : ∀ x xs, H1 x = some (.tup xs) → ¬ ∃ j, Fps j x := fun x xs e ⟨j, z⟩ => by
      obtain ⟨o, ho, m⟩ := X1.boo.dom _ _ z
      rw [e] at ho
      cases ho
      exact m.t _ rfl
    have hl2 : ∀ (i : Nat) a k, las[i]? = some a → ks[i]? = some k → LookH H2 a k := fun i a k h1 h2 => (X1.kin.at_ i a k h1 h2).keep s ntB
    have own2 : ∀ i x, Fps2 i x → x ≠ a ∧ x ≠ mx := fun i x hx => by
      rcases g i x hx with z | z
      · exact X1.own i x z
      · exact ⟨fun e => (by rw [e, ha1] at z; cases z), fun e => (by rw [e, X1.mix.ins] at z; cases z)⟩
    walk_at "go"
    refine ⟨mx, mdx, l, st.ws, chancesF ks st, ks.length, rfl, rfl, ⟨sh, hm2, hs2⟩, sq_of el2, f.mok, cokF f, .int, (fun z => by rw [hy] at z; cases z), fun t e _ _ sh3 H3 nsh s3 M3 => ?_⟩
    cases e
    have kl : ∀ {x : Addr} {xs : List V}, H2 x = some (.lst xs) → H3 x = some (.lst xs) := fun e => s3.kp _ _ (ne_kind e hm2 (by intro z; cases z)) e
    have ha3 := s3.kp _ _ X1.nam ha2
    have he3 := kl he2
    have hp3 := kl hp2
    have hk3 := kl hk2
    have hb3 := kl hb2
    have B3 := B.keep s3 (fun i x hx => (own2 i x hx).2) fun x xs hx => ne_kind hx hm2 (by intro z; cases z)
    have hl3 : ∀ (i : Nat) a k, las[i]? = some a → ks[i]? = some k → LookH H3 a k := fun i a k h1 h2 => (hl2 i a k h1 h2).keep s3 fun x xs hx => ne_kind hx hm2 (by intro z; cases z)
    have n1 : sh3 ≠ pa := fun z => by rw [z, hp2] at nsh; cases nsh
    have n2 : sh3 ≠ a := fun z => by rw [z, ha2] at nsh; cases nsh
    have n3 : sh3 ≠ en := fun z => by rw [z, he2] at nsh; cases nsh
    have S3 : SameX Fp H H3 := ((SameX.of s1 : SameX Fp H H1).grow s fun x ⟨j, hx⟩ => .inl (X.covb j x hx)).grow s3 fun x hx => .inl (by rw [hx]; exact X.cov.2.2.2.1)
    have nshH : H sh3 = none := s1.free (s.dm _ nsh)
    have g3 : ∀ j x, Fps2 j x → Fp x ∨ H x = none := fun j x hx => by
      rcases g j x hx with z | z
      · exact .inl (X.covb j x z)
      · exact .inr (s1.free z)
    have own3 : ∀ i x, Fps2 i x → x ≠ a ∧ x ≠ mx := own2
    clear own2 hl2 kl el2 hs2 hm2 hb2 hk2 hp2 he2 ha2 g B s nsh
    walk_at "go"
    have pl : bits.length ≤ 800000 := hn
    have neap : a ≠ pa := (ne_kind hp3 ha3 (by intro z; cases z)).symm
    have ha4 := lk_mut (u := .lst (bits.map V.int ++ [.int b])) neap ha3
    have he4 := lk_mut (u := .lst (bits.map V.int ++ [.int b])) X1.nep he3
    have hk4 := lk_mut (u := .lst (bits.map V.int ++ [.int b])) X1.npk.1.symm hk3
    have hb4 := lk_mut (u := .lst (bits.map V.int ++ [.int b])) X1.npk.2.1.symm hb3
    have hm4 := lk_mut (u := .lst (bits.map V.int ++ [.int b])) (ne_kind hp3 M3.ins (by intro z; cases z)).symm M3.ins
    have hs4 := lk_mut (u := .lst (bits.map V.int ++ [.int b])) n1 M3.lst
    have S4 := S3.mut (a := pa) (o := .lst (bits.map V.int ++ [.int b])) X.cov.2.2.2.2.2.2
    have hp4 := upd_same (H := H3) (a := pa) (o := .lst (bits.map V.int ++ [.int b]))
    have X34 : SameX (· = pa) H3 (upd H3 pa (.lst (bits.map V.int ++ [.int b]))) := (SameX.refl (M := (· = pa)) H3).mut rfl
    have B4 := B3.keep X34 (fun i x hx z => by
      obtain ⟨o, ho, m⟩ := B3.dom i x hx
      rw [z, hp3] at ho
      cases ho
      exact m.l _ rfl) fun x xs hx => ne_kind hx hp3 (by intro z; cases z)
    have hl4 : ∀ (i : Nat) a k, las[i]? = some a → ks[i]? = some k → LookH (upd H3 pa (.lst (bits.map V.int ++ [.int b]))) a k := fun i a k h1 h2 => (hl3 i a k h1 h2).keep X34 fun x xs hx => ne_kind hx hp3 (by intro z; cases z)
    generalize upd H3 pa (.lst (bits.map V.int ++ [.int b])) = H4 at ha4 he4 hk4 hb4 hm4 hs4 S4 hp4 B4 hl4
    clear X34 hl3 B3 hb3 hk3 hp3 he3 ha3 s3 M3
    walk_at "go"
    refine ⟨a, dx, k, bl, mx, en, pa, st.ended, st.place, b, rfl, rfl, ha4, he4, by omega, fun en5 H5 s5 hen5 ha5 he5 => ?_⟩
    have nea : en ≠ a := ne_kind he4 ha4 (by intro z; cases z)
    have kk5 : ∀ {x : Addr} {o : HO}, H4 x = some o → x ≠ a → x ≠ en → H5 x = some o := fun e h1 h2 => s5.kp _ _ (not_or.mpr ⟨h1, h2⟩) e
    have nla : ∀ {x : Addr} {xs : List V}, H4 x = some (.lst xs) → x ≠ a := fun e => ne_kind e ha4 (by intro z; cases z)
    have hk5 := kk5 hk4 (nla hk4) X1.nek.1.symm
    have hb5 := kk5 hb4 (nla hb4) X1.nek.2.1.symm
    have hm5 := kk5 hm4 X1.nam.symm (ne_kind he4 hm4 (by intro z; cases z)).symm
    have hs5 := kk5 hs4 n2 n3
    have hp5 := kk5 hp4 neap.symm X1.nep.symm
    have ntM : ∀ x xs, H4 x = some (.tup xs) → ¬ (x = a ∨ x = en) := fun x xs hx => not_or.mpr ⟨ne_kind hx ha4 (by intro z; cases z), ne_kind hx he4 (by intro z; cases z)⟩
    have B5 := B4.keep s5 (fun i x hx => not_or.mpr ⟨(own3 i x hx).1, fun z => by
      obtain ⟨o, ho, m⟩ := B4.dom i x hx
      rw [z, he4] at ho
      cases ho
      exact m.l _ rfl⟩) ntM
    have e5 : ∀ {x : Addr} {o : HO}, H4 x = some o → en ≠ x → en5 ≠ x := fun e h => by
      rcases hen5 with z | z
      · rw [z]; exact h
      · exact fun y => by rw [y, e] at z; cases z
    have S5 : SameX Fp H H5 := S4.grow s5 fun x hx => .inl (by
      rcases hx with z | z
      · rw [z]; exact X.cov.1
      · rw [z]; exact X.cov.2.2.2.2.2.1)
    refine q (fun x => x = a ∨ x = k ∨ x = bl ∨ x = mx ∨ x = sh3 ∨ x = en5 ∨ x = pa ∨ ∃ j, Fps2 j x) H5 S5 (fun x hx => ?_) ⟨dx, k, bl, mx, mdx, sh3, en5, pa, las, bas, Fps2,
      ⟨ha5, ⟨hk5, X1.kin.len, fun i a k h1 h2 => (hl4 i a k h1 h2).keep s5 ntM⟩, hb5, bn, ?_, ⟨hm5, hs5⟩, he5, by rw [hp5, List.map_append]; rfl, own3, X1.nam, e5 hp4 X1.nep, ⟨e5 hk4 X1.nek.1, e5 hb4 X1.nek.2.1, e5 hs4 n3.symm⟩, ⟨X1.npk.1, X1.npk.2.1, n1.symm⟩,
        ⟨.inl rfl, .inr (.inl rfl), .inr (.inr (.inl rfl)), .inr (.inr (.inr (.inl rfl))), .inr (.inr (.inr (.inr (.inl rfl)))), .inr (.inr (.inr (.inr (.inr (.inl rfl))))), .inr (.inr (.inr (.inr (.inr (.inr (.inl rfl))))))⟩, fun j x hx => .inr (.inr (.inr (.inr (.inr (.inr (.inr ⟨j, hx⟩)))))), fun x hx => ?_⟩⟩
    · obtain ⟨c1, c2, c3, c4, c5, c6, c7⟩ := X.cov
      rcases hx with rfl | rfl | rfl | rfl | rfl | rfl | rfl | ⟨j, hx⟩
      · exact .inl c1
      · exact .inl c2
      · exact .inl c3
      · exact .inl c4
      · exact .inr nshH
      · rcases hen5 with z | z
        · rw [z]; exact .inl c6
        · exact .inr (S4.dm _ z)
      · exact .inl c7
      · exact g3 j x hx
    · rw [show (fun _ : Nat => (bits ++ [b]).length) = fun _ => bits.length + 1 from by funext j; rw [List.length_append]; rfl]
      exact B5
    · rcases hx with rfl | rfl | rfl | rfl | rfl | rfl | rfl | ⟨j, hx⟩
      · exact ⟨_, ha5, fun xs z => nomatch z⟩
      · exact ⟨_, hk5, fun xs z => nomatch z⟩
      · exact ⟨_, hb5, fun xs z => nomatch z⟩
      · exact ⟨_, hm5, fun xs z => nomatch z⟩
      · exact ⟨_, hs5, fun xs z => nomatch z⟩
      · exact ⟨_, he5, fun xs z => nomatch z⟩
      · exact ⟨_, hp5, fun xs z => nomatch z⟩
      · obtain ⟨o, ho, m⟩ := B5.dom j x hx
        exact ⟨o, ho, m.t⟩
  ) only [↓Bx.eq]
end
/-! a foreteller is made; forks -/
section
variable (K : PySem.W.Frag) [HasCls K "Foreteller"] [HasNo K "Foreteller" "kinds"] [HasNo K "Foreteller" "books"] [HasNo K "Foreteller" "mixer"] [HasNo K "Foreteller" "ended"] [HasNo K "Foreteller" "place"] [HasNo K "Foreteller" "past"]
def F_Foreteller_init (K : PySem.W.Frag) : V → V → Hp → VK → XK → Prop := fun x y H Q E => ∃ (a dx : Addr), x = .ref a ∧ H a = some (.ins (He.ga K "Foreteller") dx []) ∧
  ((LsT K H y false ∧ ∀ H', Same H H' → E (.ref (He.ga K "NoLooks")) none H') ∨ ∃ (l : Addr) (las : List Addr) (ks : List Lk), y = .ref l ∧ LooksH H l las ks ∧ LksOk ks ∧
    ∀ Fp H', (∀ b, Fp b → b = a ∨ H b = none) → SameX (· = a) H H' → ForAt K H' a Fp ks [] → Q .non H')
abbrev sp_Foreteller_init (K : PySem.W.Frag) : Sp := on2 (F_Foreteller_init K)
theorem LooksH.keep {M : Addr → Prop} {H H1 : Hp} {l : Addr} {as : List Addr} {ks : List Lk} (h : LooksH H l as ks) (s : SameX M H H1) (nl : ¬ M l) (nt : ∀ b xs, H b = some (.tup xs) → ¬ M b) : LooksH H1 l as ks := ⟨s.kp _ _ nl h.lst, h.len, fun i a k ha hk => (h.at_ i a k ha hk).keep s nt⟩
def t_Foreteller_init (K : PySem.W.Frag) (E : XK) : TS :=
  tSeq (sFld K (tVar 0) (tFun (sp_checked_looks K) [] (fun _ => E) (tCons (tVar 1) (tNil))) "kinds")
  (tSeq (sFld K (tVar 0) (tLc (iList K (tFld K (tVar 0) "kinds")) (gName 2) (tYes) (tNew (He.ga K "Book") (sp_Book_init K) [] (fun _ => E0) (tCons (tVar 2) (tNil))) [2]) "books")
  (tSeq (sFld K (tVar 0) (tNew (He.ga K "Mixer") (sp_Mixer_init K) [] (fun _ => E) (tCons (tCB (rLength K) (tCons (tFld K (tVar 0) "books") (tNil))) (tNil))) "mixer")
  (tSeq (sFld K (tVar 0) (tLst (tNil)) "ended")
  (tSeq (sFld K (tVar 0) (tC (.int 0)) "place")
  (sFld K (tVar 0) (tLst (tNil)) "past")))))
theorem pure_Foreteller_init {x y : V} {H : Hp} {Q : VK} {E : XK} (h : F_Foreteller_init K x y H Q E) : t_Foreteller_init K E ⟨fun _ H' => Q .non H', Q, fun _ _ => False, fun _ _ => False⟩ [some x, some y, none] H := by
  refine Bx.out ?_
  simp (disch := with_unfolding_all
  obtain ⟨a, dx, rfl, ha, h⟩ := h
  unfold t_Foreteller_init
  walk_at "go"
  rcases h with ⟨T, r⟩ | ⟨l, las, ks, rfl, L, ok, q⟩
  · exact ⟨false, T, fun _ => r, fun z => nomatch z⟩
  refine looks_of L ok fun k H1 nk s1 Lk => ?_
  have ha1 := s1 _ _ ha
  have l6 := ok.l6
  have ll := Lk.len
  have nka : k ≠ a := ne_kind Lk.lst ha1 (by intro z; cases z)
  have S : SameX (· = a) H H1 := SameX.of s1
  walk_at "go"
  have X1 : SameX (· = a) H1 (upd H1 a (.ins (He.ga K "Foreteller") dx [("kinds", .ref k)])) := (SameX.refl (M := (· = a)) H1).mut rfl
  have S := S.trans X1
  have Lk := Lk.keep X1 nka fun b xs hb => ne_kind hb ha1 (by intro z; cases z)
  have ha2 := upd_same (H := H1) (a := a) (o := .ins (He.ga K "Foreteller") dx [("kinds", .ref k)])
  generalize upd H1 a (.ins (He.ga K "Foreteller") dx [("kinds", .ref k)]) = H2 at ha2 Lk S
  clear X1 ha1
  have hk2 := Lk.lst
  have S2 := S
  walk_at "go"
  refine lc_LN (sq_of Lk.lst) (by rw [List.length_map]; omega) (fun D i ys H3 => H2 D = none ∧ ∃ bas Fps, ys = bas.map V.ref ∧ bas.length = i ∧ i ≤ las.length ∧ Same H2 H3 ∧ H3 D = some (.lst ys) ∧ BooksAt K H3 bas Fps (st0 ks).bk ks (fun _ => 0) ∧ ∀ j x, Fps j x → H2 x = none ∧ x ≠ D)
    (fun D hD => ⟨hD, [], fun _ _ => False, rfl, rfl, Nat.zero_le _, same_new (Same.refl _) hD, upd_same, ⟨fun i b k hb => by simp at hb, fun _ _ _ _ z => z.elim, fun _ _ z => z.elim⟩, fun _ _ z => z.elim⟩) ?_ ?_ ?_
  · rintro D i ys H3 ⟨hD, bas, Fps, rfl, rfl, hi, s, eD, B, g⟩
    exact ⟨sq_of (s _ _ Lk.lst), eD, by rw [List.length_map]⟩
  · rintro D i v ys H3 Q2 hv ⟨hD, bas, Fps, rfl, bi, hi, s, eD, B, g⟩ q2
    obtain ⟨la, hla, rfl⟩ := map_at hv
    have hi := (List.getElem?_eq_some_iff.mp hla).1
    have hk : ks[i]? = some (ks[i]'(by omega)) := List.getElem?_eq_getElem (by omega)
    have hkd : (ks.getD i ("", [])) = ks[i]'(by omega) := by rw [List.getD_eq_getElem?_getD, hk]; rfl
    generalize ks[i]'(by omega) = kk at hk hkd
    walk_at "go"
    intro b bx nb nbx nbb
    have nb' : upd H3 bx (.own b) b = none := by rw [upd_ne nbb.symm]; exact nb
    have S0 := same_new (u := .ins (He.ga K "Book") bx []) (same_new (u := .own b) (Same.refl H3) nbx) nb'
    have S3 := Same.trans s S0
    walk_at "go"
    refine ⟨b, bx, la, kk, rfl, rfl, upd_same, (Lk.at_ i la kk hla hk).same S3, fun Fb H4 gb s4 B4 => ⟨rfl, ?_⟩⟩
    have s34 : Same H3 H4 := SameX.back1 S0 s4 nb
    have fb3 : ∀ x, Fb x → H3 x = none := fun x hx => by
      rcases gb x hx with z | z
      · rw [z]; exact nb
      · exact upd_none (upd_none z)
    refine q2 _ _ (s34 _ _ eD) ⟨hD, bas ++ [b], fun j => if j = i then Fb else Fps j, by rw [List.map_append]; rfl, by rw [List.length_append, List.length_singleton, bi], by omega, same_mut (Same.trans s s34) hD, upd_same, ⟨fun j b' k' hb' hk' => ?_, fun j j' x hne h1 h2 => ?_, fun j x hx => ?_⟩, fun j x hx => ?_⟩
    · have XD : SameX (· = D) H4 (upd H4 D (.lst (bas.map V.ref ++ [.ref b]))) := (SameX.refl (M := (· = D)) H4).mut rfl
      have eD4 := s34 _ _ eD
      by_cases z : j = i
      · subst z
        rw [hk] at hk'
        cases hk'
        have : b' = b := by
          rw [List.getElem?_append_right (by omega), bi, Nat.sub_self] at hb'
          cases hb'
          rfl
        subst this
        rw [if_pos rfl]
        have e0 : (st0 ks).bk j = fresh kk.1 := by show fresh (ks.getD j ("", [])).1 = _; rw [hkd]
        rw [e0]
        exact B4.keep XD (fun x hx => fun y => by rw [y] at hx; exact B4.nl eD4 hx) fun x xs hx => ne_kind hx eD4 (by intro z; cases z)
      · rw [if_neg z]
        have hj : bas[j]? = some b' := by
          rw [List.getElem?_append] at hb'
          split at hb'
          · exact hb'
          · rename_i c
            have := (List.getElem?_eq_some_iff.mp hb').1
            rw [List.length_singleton] at this
            omega
        have Bj := (B.boo j b' k' hj hk').same s34
        exact Bj.keep XD (fun x hx => fun y => by rw [y] at hx; exact Bj.nl eD4 hx) fun x xs hx => ne_kind hx eD4 (by intro z; cases z)
    · have new : ∀ j, Fps j x → Fb x → False := fun j h1 h2 => by
        obtain ⟨o, ho, _⟩ := B.dom j x h1
        rw [fb3 x h2] at ho
        cases ho
      by_cases z1 : j = i
      · rw [if_pos z1] at h1
        by_cases z2 : j' = i
        · exact hne (by rw [z1, z2])
        · rw [if_neg z2] at h2
          exact new _ h2 h1
      · rw [if_neg z1] at h1
        by_cases z2 : j' = i
        · rw [if_pos z2] at h2
          exact new _ h1 h2
        · rw [if_neg z2] at h2
          exact B.dj _ _ _ hne h1 h2
    · have hx : (if j = i then Fb else Fps j) x := hx
      have go : ∀ o, H4 x = some o → MutO o → ∃ o, (upd H4 D (.lst (bas.map V.ref ++ [.ref b]))) x = some o ∧ MutO o := fun o ho m => ⟨o, by
        rw [upd_ne (fun y => by rw [y, s34 _ _ eD] at ho; cases ho; exact m.l _ rfl)]
        exact ho, m⟩
      by_cases z : j = i
      · rw [if_pos z] at hx
        obtain ⟨o, ho, m⟩ := B4.dom x hx
        exact go o ho m
      · rw [if_neg z] at hx
        obtain ⟨o, ho, m⟩ := B.dom j x hx
        exact go o (s34 _ _ ho) m
    · have hx : (if j = i then Fb else Fps j) x := hx
      by_cases z : j = i
      · rw [if_pos z] at hx
        have h3 := fb3 x hx
        exact ⟨s.free h3, fun y => by rw [y, eD] at h3; cases h3⟩
      · rw [if_neg z] at hx
        exact g j x hx
  · rintro bl ys H3 ⟨nbl, bas, Fps, rfl, bln, -, s3, ebl, B, g⟩
    rw [List.length_map] at bln
    have ha3 := s3 _ _ ha2
    have Lk := Lk.same s3
    have S := S.trans (SameX.of s3)
    have nba : bl ≠ a := ne_kind ebl ha3 (by intro z; cases z)
    have nbk : bl ≠ k := fun z => by rw [z, hk2] at nbl; cases nbl
    have nblH : H bl = none := S2.dm _ nbl
    have gH : ∀ j x, Fps j x → H x = none ∧ x ≠ a := fun j x hx => by
      have z := (g j x hx).1
      exact ⟨S2.dm _ z, fun y => by rw [y, ha2] at z; cases z⟩
    clear g s3 nbl ha2
    walk_at "go"
    have X1 : SameX (· = a) H3 (upd H3 a (.ins (He.ga K "Foreteller") dx [("kinds", .ref k), ("books", .ref bl)])) := (SameX.refl (M := (· = a)) H3).mut rfl
    have nt3 : ∀ b xs, H3 b = some (.tup xs) → ¬ b = a := fun b xs hb => ne_kind hb ha3 (by intro z; cases z)
    have S := S.trans X1
    have Lk := Lk.keep X1 nka nt3
    have B := B.keep X1 (fun j x hx => (gH j x hx).2) nt3
    have ebl := X1.kp _ _ nba ebl
    have ha4 := upd_same (H := H3) (a := a) (o := .ins (He.ga K "Foreteller") dx [("kinds", .ref k), ("books", .ref bl)])
    generalize upd H3 a (.ins (He.ga K "Foreteller") dx [("kinds", .ref k), ("books", .ref bl)]) = H4 at ha4 Lk S B ebl
    clear X1 nt3 ha3
    walk_at "go"
    intro mx mdx nmx nmdx nmd
    have nma : a ≠ mx := fun z => by rw [← z, ha4] at nmx; cases nmx
    have nmH : H mx = none := S.dm _ nmx
    have nm' : upd H4 mdx (.own mx) mx = none := by rw [upd_ne nmd.symm]; exact nmx
    have s5 := same_new (u := .ins (He.ga K "Mixer") mdx []) (same_new (u := .own mx) (Same.refl H4) nmdx) nm'
    walk_at "go"
    refine ⟨mx, mdx, ks.length, rfl, by rw [List.length_map, bln, ll], l6, upd_same, fun sh H6 nsh s6 M6 => ⟨rfl, ?_⟩⟩
    have s46 : Same H4 H6 := SameX.back1 s5 s6 nmx
    have nsh4 : H4 sh = none := upd_none (upd_none nsh)
    have nshH : H sh = none := S.dm _ nsh4
    have nsk : sh ≠ k := fun z => by rw [z, Lk.lst] at nsh4; cases nsh4
    have nsb : sh ≠ bl := fun z => by rw [z, ebl] at nsh4; cases nsh4
    have nsa : sh ≠ a := fun z => by rw [z, ha4] at nsh4; cases nsh4
    have gm : ∀ j x, Fps j x → x ≠ mx := fun j x hx y => by
      obtain ⟨o, ho, _⟩ := B.dom j x hx
      rw [y, nmx] at ho
      cases ho
    have ha4 := s46 _ _ ha4
    have ebl := s46 _ _ ebl
    have Lk := Lk.same s46
    have B := B.same s46
    have S := S.trans (SameX.of s46)
    clear s46 nsh nsh4 s6 s5 nmx nmdx nmd nm'
    walk_at "go"
    have X1 : SameX (· = a) H6 (upd H6 a (.ins (He.ga K "Foreteller") dx [("kinds", .ref k), ("books", .ref bl), ("mixer", .ref mx)])) := (SameX.refl (M := (· = a)) H6).mut rfl
    have nt3 : ∀ b xs, H6 b = some (.tup xs) → ¬ b = a := fun b xs hb => ne_kind hb ha4 (by intro z; cases z)
    have S := S.trans X1
    have Lk := Lk.keep X1 nka nt3
    have B := B.keep X1 (fun j x hx => (gH j x hx).2) nt3
    have ebl := X1.kp _ _ nba ebl
    have em := X1.kp _ _ nma.symm M6.ins
    have es := X1.kp _ _ nsa M6.lst
    have ha7 := upd_same (H := H6) (a := a) (o := .ins (He.ga K "Foreteller") dx [("kinds", .ref k), ("books", .ref bl), ("mixer", .ref mx)])
    generalize upd H6 a (.ins (He.ga K "Foreteller") dx [("kinds", .ref k), ("books", .ref bl), ("mixer", .ref mx)]) = H7 at ha7 Lk S B ebl em es
    clear X1 nt3 ha4 M6
    intro en nen
    have nenH : H en = none := S.dm _ nen
    have e1 : en ≠ k := fun z => by rw [z, Lk.lst] at nen; cases nen
    have e2 : en ≠ bl := fun z => by rw [z, ebl] at nen; cases nen
    have e3 : en ≠ sh := fun z => by rw [z, es] at nen; cases nen
    have e4 : en ≠ a := fun z => by rw [z, ha7] at nen; cases nen
    have S := S.new (o := .lst []) nen
    have ee : (upd H7 en (.lst [])) en = some (.lst []) := upd_same
    have ha7 := lk_new (u := .lst []) ha7 nen
    have ebl := lk_new (u := .lst []) ebl nen
    have em := lk_new (u := .lst []) em nen
    have es := lk_new (u := .lst []) es nen
    have Lk := Lk.same (same_new (u := .lst []) (Same.refl _) nen)
    have B := B.same (same_new (u := .lst []) (Same.refl _) nen)
    generalize upd H7 en (.lst []) = H8 at ee ha7 ebl em es Lk B S
    clear nen
    walk_at "go"
    have X1 : SameX (· = a) H8 (upd H8 a (.ins (He.ga K "Foreteller") dx [("kinds", .ref k), ("books", .ref bl), ("mixer", .ref mx), ("ended", .ref en), ("place", .int 0)])) := (SameX.refl (M := (· = a)) H8).mut rfl
    have nt3 : ∀ b xs, H8 b = some (.tup xs) → ¬ b = a := fun b xs hb => ne_kind hb ha7 (by intro z; cases z)
    have S := S.trans X1
    have Lk := Lk.keep X1 nka nt3
    have B := B.keep X1 (fun j x hx => (gH j x hx).2) nt3
    have ebl := X1.kp _ _ nba ebl
    have em := X1.kp _ _ nma.symm em
    have es := X1.kp _ _ nsa es
    have ee := X1.kp _ _ e4 ee
    have ha9 := upd_same (H := H8) (a := a) (o := .ins (He.ga K "Foreteller") dx [("kinds", .ref k), ("books", .ref bl), ("mixer", .ref mx), ("ended", .ref en), ("place", .int 0)])
    generalize upd H8 a (.ins (He.ga K "Foreteller") dx [("kinds", .ref k), ("books", .ref bl), ("mixer", .ref mx), ("ended", .ref en), ("place", .int 0)]) = H9 at ha9 Lk S B ebl em es ee
    clear X1 nt3 ha7
    intro pa npa
    have npH : H pa = none := S.dm _ npa
    have p1 : pa ≠ k := fun z => by rw [z, Lk.lst] at npa; cases npa
    have p2 : pa ≠ bl := fun z => by rw [z, ebl] at npa; cases npa
    have p3 : pa ≠ sh := fun z => by rw [z, es] at npa; cases npa
    have p4 : pa ≠ a := fun z => by rw [z, ha9] at npa; cases npa
    have p5 : pa ≠ en := fun z => by rw [z, ee] at npa; cases npa
    have S := S.new (o := .lst []) npa
    have ep : (upd H9 pa (.lst [])) pa = some (.lst []) := upd_same
    have ha9 := lk_new (u := .lst []) ha9 npa
    have ebl := lk_new (u := .lst []) ebl npa
    have em := lk_new (u := .lst []) em npa
    have es := lk_new (u := .lst []) es npa
    have ee := lk_new (u := .lst []) ee npa
    have Lk := Lk.same (same_new (u := .lst []) (Same.refl _) npa)
    have B := B.same (same_new (u := .lst []) (Same.refl _) npa)
    generalize upd H9 pa (.lst []) = H10 at ep ha9 ebl em es ee Lk B S
    clear npa
    walk_at "go"
    have X1 : SameX (· = a) H10 (upd H10 a (.ins (He.ga K "Foreteller") dx (foreF k bl mx en 0 pa))) := (SameX.refl (M := (· = a)) H10).mut rfl
    have nt3 : ∀ b xs, H10 b = some (.tup xs) → ¬ b = a := fun b xs hb => ne_kind hb ha9 (by intro z; cases z)
    have S := S.trans X1
    have Lk := Lk.keep X1 nka nt3
    have B := B.keep X1 (fun j x hx => (gH j x hx).2) nt3
    have ebl := X1.kp _ _ nba ebl
    have em := X1.kp _ _ nma.symm em
    have es := X1.kp _ _ nsa es
    have ee := X1.kp _ _ e4 ee
    have ep := X1.kp _ _ p4 ep
    have ha11 := upd_same (H := H10) (a := a) (o := .ins (He.ga K "Foreteller") dx (foreF k bl mx en 0 pa))
    have nkH : H k = none := nk
    refine q (fun x => x = a ∨ x = k ∨ x = bl ∨ x = mx ∨ x = sh ∨ x = en ∨ x = pa ∨ ∃ j, Fps j x) _ (fun x hx => ?_) S ⟨dx, k, bl, mx, mdx, sh, en, pa, las, bas, Fps,
      ⟨ha11, Lk, ebl, by rw [bln, ll], B, ⟨em, es⟩, ee, ep, fun i x hx => ⟨(gH i x hx).2, gm i x hx⟩, nma, p5.symm, ⟨e1, e2, e3⟩, ⟨p1, p2, p3⟩,
        ⟨.inl rfl, .inr (.inl rfl), .inr (.inr (.inl rfl)), .inr (.inr (.inr (.inl rfl))), .inr (.inr (.inr (.inr (.inl rfl)))), .inr (.inr (.inr (.inr (.inr (.inl rfl))))), .inr (.inr (.inr (.inr (.inr (.inr (.inl rfl))))))⟩, fun j x hx => .inr (.inr (.inr (.inr (.inr (.inr (.inr ⟨j, hx⟩)))))), fun x hx => ?_⟩⟩
    · rcases hx with rfl | rfl | rfl | rfl | rfl | rfl | rfl | ⟨j, hx⟩
      · exact .inl rfl
      · exact .inr nkH
      · exact .inr nblH
      · exact .inr nmH
      · exact .inr nshH
      · exact .inr nenH
      · exact .inr npH
      · exact .inr (gH j x hx).1
    · rcases hx with rfl | rfl | rfl | rfl | rfl | rfl | rfl | ⟨j, hx⟩
      · exact ⟨_, ha11, fun xs z => nomatch z⟩
      · exact ⟨_, Lk.lst, fun xs z => nomatch z⟩
      · exact ⟨_, ebl, fun xs z => nomatch z⟩
      · exact ⟨_, em, fun xs z => nomatch z⟩
      · exact ⟨_, es, fun xs z => nomatch z⟩
      · exact ⟨_, ee, fun xs z => nomatch z⟩
      · exact ⟨_, ep, fun xs z => nomatch z⟩
      · obtain ⟨o, ho, m⟩ := B.dom j x hx
        exact ⟨o, ho, m.t⟩
  ) only [↓Bx.eq]
end
section
variable (K : PySem.W.Frag)
/-- made of right looks -/
theorem fore_new {H : Hp} {l : Addr} {las : List Addr} {ks : List Lk} {a dx : Addr} {Q : Hp → Prop} {E : XK} (L : LooksH H l las ks) (ok : LksOk ks) (na : H a = none) (ndx : H dx = none) (nad : dx ≠ a)
    (q : ∀ Fp H', Same H H' → (∀ x, Fp x → H x = none) → ForAt K H' a Fp ks [] → Q H') : F_Foreteller_init K (.ref a) (.ref l) (upd (upd H dx (.own a)) a (.ins (He.ga K "Foreteller") dx [])) (fun v H2 => v = .non ∧ Q H2) E := by
  have S0 : Same H (upd (upd H dx (.own a)) a (.ins (He.ga K "Foreteller") dx [])) := same_mut (same_mut (Same.refl H) ndx) na
  refine ⟨a, dx, rfl, upd_same, .inr ⟨l, las, ks, rfl, L.same S0, ok, fun Fp H' g s A => ⟨rfl, q Fp H' (SameX.back1 S0 s na) (fun x hx => ?_) A⟩⟩⟩
  rcases g x hx with z | z
  · rw [z]; exact na
  · exact upd_none (upd_none z)
end
/-! texts, decisions, nodes -/
/-- whether x is a list of at most m signs -/
inductive SgT (K : PySem.W.Frag) (H : Hp) (m : Nat) : V → Bool → Prop
  | lst {a : Addr} {xs : List V} (e : H a = some (.lst xs)) (l : xs.length ≤ 1000000) (t : ∀ v ∈ xs, TyW K H v) : SgT K H m (.ref a) (decide (xs.length ≤ m) && xs.all (btw 0 255))
  | other {x : V} {tn : String} (t : TyX K H x (.type tn)) (k : kitB tn "list" = some false) : SgT K H m x false
structure TextOk (m : Nat) (ns : List Int) : Prop where
  len : ns.length ≤ m
  all : ∀ z ∈ ns, 0 ≤ z ∧ z ≤ 255
theorem all_ints : ∀ {xs : List V}, xs.all (btw 0 255) = true → ∃ ns : List Int, xs = ns.map V.int ∧ ∀ z ∈ ns, 0 ≤ z ∧ z ≤ 255
  | [], _ => ⟨[], rfl, fun z h => nomatch h⟩
  | x :: xs, h => by
    rw [List.all_cons, Bool.and_eq_true] at h
    obtain ⟨ns, rfl, hn⟩ := all_ints h.2
    obtain ⟨i, rfl, hi⟩ := btw_int h.1
    refine ⟨i :: ns, rfl, fun z hz => ?_⟩
    rcases List.mem_cons.mp hz with rfl | hz
    · exact hi
    · exact hn z hz
theorem SgT.yes {K : PySem.W.Frag} {H : Hp} {m : Nat} {x : V} (h : SgT K H m x true) : ∃ a ns, x = .ref a ∧ H a = some (.lst (ns.map V.int)) ∧ TextOk m ns := by
  generalize hb : true = b at h
  cases h with
  | @lst a xs e l t =>
    have hb := hb.symm
    rw [Bool.and_eq_true, decide_eq_true_iff] at hb
    obtain ⟨ns, rfl, hn⟩ := all_ints hb.2
    exact ⟨a, ns, rfl, e, ⟨by simpa using hb.1, hn⟩⟩
  | other t k => cases hb
theorem SgT.of {K : PySem.W.Frag} {H : Hp} {m : Nat} {a : Addr} {ns : List Int} (e : H a = some (.lst (ns.map V.int))) (t : TextOk m ns) (hm : m ≤ 1000000) : SgT K H m (.ref a) true := by
  have k := SgT.lst (K := K) (m := m) e (by rw [List.length_map]; exact Nat.le_trans t.len hm) (fun v hv => by
    obtain ⟨z, _, rfl⟩ := List.mem_map.mp hv
    exact .int)
  have c : (ns.map V.int).all (btw 0 255) = true := by
    rw [List.all_map]
    refine List.all_eq_true.mpr fun z hz => ?_
    show btw 0 255 (.int z) = true
    rw [btw, decide_eq_true (t.all z hz).1, decide_eq_true (t.all z hz).2]
    rfl
  rw [c, decide_eq_true (by rw [List.length_map]; exact t.len)] at k
  exact k
def F_are_signs (K : PySem.W.Frag) : V → V → Hp → VK → XK → Prop := fun x y H Q _ => ∃ (m : Nat) (b : Bool), y = .int m ∧ SgT K H m x b ∧ ∀ H', Same H H' → Q (.bl b) H'
abbrev sp_are_signs (K : PySem.W.Frag) : Sp := on2 (F_are_signs K)
/-- a checked list of signs: handed on as a new one, or refused by the class C -/
def F_signs (K : PySem.W.Frag) (m : Nat) (C : Str) : V → Hp → VK → XK → Prop := fun x H Q E => ∃ b : Bool, SgT K H m x b ∧ (b = false → ∀ H', Same H H' → E (.ref (He.ga K C)) none H') ∧
  (b = true → ∀ a ns, x = .ref a → H a = some (.lst (ns.map V.int)) → TextOk m ns → ∀ l H', H l = none → Same H H' → H' l = some (.lst (ns.map V.int)) → Q (.ref l) H')
abbrev sp_checked_text (K : PySem.W.Frag) : Sp := on1 (F_signs K 1000 "NoText")
abbrev sp_checked_bytes (K : PySem.W.Frag) : Sp := on1 (F_signs K 12000 "NoBytes")
theorem signs_of' {K : PySem.W.Frag} {m : Nat} {C : Str} {H : Hp} {Q : VK} {E : XK} {a : Addr} {ns : List Int} (e : H a = some (.lst (ns.map V.int))) (t : TextOk m ns) (hm : m ≤ 1000000) (q : ∀ l H', H l = none → Same H H' → H' l = some (.lst (ns.map V.int)) → Q (.ref l) H') : F_signs K m C (.ref a) H Q E := by
  refine ⟨true, SgT.of e t hm, (fun h => nomatch h), fun _ a' ns' ea e' _ => ?_⟩
  cases ea
  have := HO.lst.inj (Option.some.inj (e.symm.trans e'))
  rw [← this]
  exact q
/-! decisions -/
theorem take_snoc' {α : Type} {l : List α} {i : Nat} {x : α} (h : l[i]? = some x) : l.take (i + 1) = l.take i ++ [x] := by
  rw [List.take_add_one, h]
  rfl
def bits8 (s : Int) : List Int := (List.range 8).map fun (i : Nat) => s / 2 ^ (7 - (i : Int)).toNat % 2
theorem bits8_is (s : Int) : bits8 s = [s / 128 % 2, s / 64 % 2, s / 32 % 2, s / 16 % 2, s / 8 % 2, s / 4 % 2, s / 2 % 2, s / 1 % 2] := rfl
def F_bits_of (K : PySem.W.Frag) : V → Hp → VK → XK → Prop := fun x H Q _ => ∃ s : Int, x = .int s ∧ ∀ l H', H l = none → Same H H' → H' l = some (.lst ((bits8 s).map V.int)) → Q (.ref l) H'
abbrev sp_bits_of (K : PySem.W.Frag) : Sp := on1 (F_bits_of K)
def nine (s : Int) : List Int := 1 :: bits8 s
def decOf (ns : List Int) : List Int := ns.flatMap nine ++ [0]
theorem nine_len (s : Int) : (nine s).length = 9 := rfl
theorem flat_len {f : Int → List Int} (hf : ∀ s, (f s).length = 9) : ∀ ns : List Int, (ns.flatMap f).length = 9 * ns.length
  | [] => rfl
  | s :: ns => by rw [List.flatMap_cons, List.length_append, hf, flat_len hf ns, List.length_cons]; omega
theorem flat_snoc {f : Int → List Int} (ns : List Int) (s : Int) : (ns ++ [s]).flatMap f = ns.flatMap f ++ f s := by
  rw [List.flatMap_append, List.flatMap_cons, List.flatMap_nil, List.append_nil]
def F_decisions_of (K : PySem.W.Frag) (f : List Int → List Int) : V → Hp → VK → XK → Prop := fun x H Q E => ∃ b : Bool, SgT K H 1000 x b ∧ (b = false → ∀ H', Same H H' → E (.ref (He.ga K "NoText")) none H') ∧
  (b = true → ∀ a ns, x = .ref a → H a = some (.lst (ns.map V.int)) → TextOk 1000 ns → ∀ l H', H l = none → Same H H' → H' l = some (.lst ((f ns).map V.int)) → Q (.ref l) H')
abbrev sp_decisions_of (K : PySem.W.Frag) : Sp := on1 (F_decisions_of K decOf)
def ndB (n b : Int) : Int := if n = 0 then b else if n > 127 then 0 else 2 * n + b
def F_node_behind (K : PySem.W.Frag) : V → V → Hp → VK → XK → Prop := fun x y H Q _ => ∃ n b : Int, x = .int n ∧ y = .int b ∧ Q (.int (ndB n b)) H
abbrev sp_node_behind (K : PySem.W.Frag) : Sp := on2 (F_node_behind K)
/-- the nodes of decisions, from a node on; the node behind them -/
def ndsF : Int → List Int → List Int
  | _, [] => []
  | n, b :: bs => n :: ndsF (ndB n b) bs
def ndE : Int → List Int → Int
  | n, [] => n
  | n, b :: bs => ndE (ndB n b) bs
theorem nds_snoc : ∀ (bs : List Int) (n b : Int), ndsF n (bs ++ [b]) = ndsF n bs ++ [ndE n bs] ∧ ndE n (bs ++ [b]) = ndB (ndE n bs) b
  | [], _, _ => ⟨rfl, rfl⟩
  | c :: bs, n, b => by
    obtain ⟨h1, h2⟩ := nds_snoc bs (ndB n c) b
    exact ⟨by rw [List.cons_append, ndsF, h1]; rfl, by rw [List.cons_append, ndE, h2]; rfl⟩
theorem nds_len : ∀ (bs : List Int) (n : Int), (ndsF n bs).length = bs.length
  | [], _ => rfl
  | c :: bs, n => by rw [ndsF, List.length_cons, nds_len bs, List.length_cons]
def nodOf (ns : List Int) : List Int := ndsF 0 (decOf ns)
theorem dec_len (ns : List Int) : (decOf ns).length = 9 * ns.length + 1 := by
  unfold decOf
  rw [List.length_append, flat_len nine_len]
  rfl
abbrev sp_nodes_of (K : PySem.W.Frag) : Sp := on1 (F_decisions_of K nodOf)/-! signs of decisions -/
theorem rg9 {n : Nat} (h : n ≤ 1001) : RgC 0 ((9 * n + 1 : Nat) - 1 : Int) 9 n := by
  have e : Builtin.Range.rangeSize 0 ((9 * n + 1 : Nat) - 1 : Int) 9 = (n : Int) := by
    unfold Builtin.Range.rangeSize
    rw [if_pos (by decide)]
    split <;> omega
  refine ⟨by decide, by decide, ?_, e⟩
  unfold Builtin.Range.small
  rw [e]
  simp only [Builtin.Range.rangeFitsLong, Bool.and_eq_true, Bool.or_eq_true, decide_eq_true_eq, beq_iff_eq, show ((9 : Int) > 0) by decide, if_true]
  omega
theorem flat_drop {f : Int → List Int} (hf : ∀ s, (f s).length = 9) : ∀ (ns : List Int) (i : Nat), (ns.flatMap f).drop (9 * i) = (ns.drop i).flatMap f
  | ns, 0 => by simp
  | [], i + 1 => by simp
  | s :: ns, i + 1 => by
    rw [List.flatMap_cons, List.drop_succ_cons, ← flat_drop hf ns i]
    have : 9 * (i + 1) = (f s).length + 9 * i := by rw [hf]; omega
    rw [this, List.drop_append]
    rw [List.drop_of_length_le (by omega), List.nil_append]
    congr 1
    omega
theorem dec_drop {ns : List Int} {i : Nat} {s : Int} (h : ns[i]? = some s) : (decOf ns).drop (9 * i) = 1 :: (bits8 s ++ ((ns.drop (i + 1)).flatMap nine ++ [0])) := by
  have hi := (List.getElem?_eq_some_iff.mp h).1
  unfold decOf
  rw [List.drop_append_of_le_length (by rw [flat_len nine_len]; omega), flat_drop nine_len]
  have : ns.drop i = s :: ns.drop (i + 1) := by
    rw [List.drop_eq_getElem_cons hi]
    congr 1
    exact (List.getElem?_eq_some_iff.mp h).2
  rw [this, List.flatMap_cons]
  unfold nine
  simp only [List.cons_append, List.append_assoc]
theorem dec_at {ns : List Int} {i : Nat} {s : Int} (h : ns[i]? = some s) : (decOf ns)[9 * i]? = some 1 ∧ ((decOf ns).drop (9 * i + 1)).take 8 = bits8 s := by
  have d := dec_drop h
  constructor
  · have := congrArg (fun l => l[0]?) d
    simpa [List.getElem?_drop] using this
  · rw [← List.drop_drop, d]
    rw [List.drop_one, List.tail_cons, List.take_append_of_le_length (by simp [bits8]), List.take_of_length_le (by simp [bits8])]
def valB (bs : List Int) : Int := bs.foldl (fun n b => 2 * n + b) 0
theorem valB_bits8 {s : Int} (h : 0 ≤ s ∧ s ≤ 255) : valB (bits8 s) = s := by
  rw [bits8_is]
  unfold valB
  simp only [List.foldl_cons, List.foldl_nil]
  omega
def F_sign_of (K : PySem.W.Frag) : V → Hp → VK → XK → Prop := fun x H Q _ => ∃ (a : Addr) (bs : List Int), x = .ref a ∧ SqL K H a (bs.map V.int) ∧ Q (.int (valB bs)) H
abbrev sp_sign_of (K : PySem.W.Frag) : Sp := on1 (F_sign_of K)
def F_signs_of (K : PySem.W.Frag) : V → Hp → VK → XK → Prop := fun x H Q _ => ∃ (a : Addr) (ns : List Int), x = .ref a ∧ H a = some (.lst ((decOf ns).map V.int)) ∧ TextOk 1000 ns ∧ ∀ l H', H l = none → Same H H' → H' l = some (.lst (ns.map V.int)) → Q (.ref l) H'
abbrev sp_signs_of (K : PySem.W.Frag) : Sp := on1 (F_signs_of K)
theorem dec_bits {ns : List Int} : ∀ z ∈ decOf ns, 0 ≤ z ∧ z ≤ 1 := by
  intro z hz
  unfold decOf at hz
  rcases List.mem_append.mp hz with hz | hz
  · obtain ⟨s, _, hz⟩ := List.mem_flatMap.mp hz
    unfold nine at hz
    rcases List.mem_cons.mp hz with rfl | hz
    · omega
    · unfold bits8 at hz
      obtain ⟨i, _, rfl⟩ := List.mem_map.mp hz
      omega
  · have := List.mem_singleton.mp hz
    omega
theorem at_last (xs : List V) (v : V) : atI (xs ++ [v]) (-1) = some v := by
  have e : ixN (xs ++ [v]).length (-1) = some xs.length := by
    unfold ixN
    rw [List.length_append, List.length_singleton, if_neg (by decide), if_pos (by omega)]
    congr 1
    omega
  unfold atI
  rw [e]
  show (xs ++ [v])[xs.length]? = some v
  simp
theorem dec_last {ns : List Int} : atI ((decOf ns).map V.int) (-1) = some (.int 0) := by
  unfold decOf
  rw [List.map_append]
  exact at_last _ _/-! texts learned, foretold -/
theorem dec_of {K : PySem.W.Frag} {H : Hp} {Q : VK} {E : XK} {f : List Int → List Int} {a : Addr} {ns : List Int} (e : H a = some (.lst (ns.map V.int))) (t : TextOk 1000 ns) (q : ∀ l H', H l = none → Same H H' → H' l = some (.lst ((f ns).map V.int)) → Q (.ref l) H') : F_decisions_of K f (.ref a) H Q E := by
  refine ⟨true, SgT.of e t (by decide), (fun h => nomatch h), fun _ a' ns' ea e' _ => ?_⟩
  cases ea
  rw [e] at e'
  have : ns = ns' := (List.map_inj_right (f := V.int) fun x y h => V.int.inj h).mp (HO.lst.inj (Option.some.inj e'))
  rw [← this]
  exact q
structure TextsH (H : Hp) (l : Addr) (tas : List Addr) (ts : List (List Int)) : Prop where
  lst : H l = some (.lst (tas.map V.ref))
  len : tas.length = ts.length
  at_ : ∀ (i : Nat) a t, tas[i]? = some a → ts[i]? = some t → H a = some (.lst (t.map V.int))
theorem TextsH.same {H H1 : Hp} {l : Addr} {tas : List Addr} {ts : List (List Int)} (h : TextsH H l tas ts) (s : Same H H1) : TextsH H1 l tas ts := ⟨s _ _ h.lst, h.len, fun i a t ha ht => s _ _ (h.at_ i a t ha ht)⟩
structure TsOk (ts : List (List Int)) : Prop where
  len : ts.length ≤ 1000
  all : ∀ t ∈ ts, TextOk 1000 t
def LearnT (H : Hp) (x : V) (ts : List (List Int)) : Prop := (x = .non ∧ ts = []) ∨ ∃ l tas, x = .ref l ∧ TextsH H l tas ts
theorem LearnT.same {H H1 : Hp} {x : V} {ts : List (List Int)} (h : LearnT H x ts) (s : Same H H1) : LearnT H1 x ts := by
  rcases h with h | ⟨l, tas, e, h⟩
  · exact .inl h
  · exact .inr ⟨l, tas, e, h.same s⟩
def dB (ts : List (List Int)) : List Int := ts.flatMap decOf
theorem dB_snoc (ts : List (List Int)) (t : List Int) : dB (ts ++ [t]) = dB ts ++ decOf t := by unfold dB; rw [List.flatMap_append, List.flatMap_cons, List.flatMap_nil, List.append_nil]
theorem dB_bits (ts : List (List Int)) : Bits (dB ts) := fun z hz => by
  obtain ⟨t, _, hz⟩ := List.mem_flatMap.mp hz
  exact dec_bits z hz
theorem Bits.app {a b : List Int} (h : Bits a) (k : Bits b) : Bits (a ++ b) := fun z hz => by
  rcases List.mem_append.mp hz with hz | hz
  · exact h z hz
  · exact k z hz
theorem Bits.take {a : List Int} (h : Bits a) (i : Nat) : Bits (a.take i) := fun z hz => h z (List.mem_of_mem_take hz)
theorem dB_take (ts : List (List Int)) (i : Nat) : (dB (ts.take i)).length ≤ (dB ts).length := by
  have e : dB ts = dB (ts.take i) ++ dB (ts.drop i) := by unfold dB; rw [← List.flatMap_append, List.take_append_drop]
  rw [e, List.length_append]
  omega
theorem dB_step {ts : List (List Int)} {i : Nat} {t : List Int} (h : ts[i]? = some t) : dB (ts.take (i + 1)) = dB (ts.take i) ++ decOf t := by rw [take_snoc' h, dB_snoc]
theorem see_of {K : PySem.W.Frag} {H : Hp} {Q : VK} {E : XK} {a : Addr} {Fp : Addr → Prop} {ks : List Lk} {bits : List Int} {b : Int} (A : ForAt K H a Fp ks bits) (ok : LksOk ks) (hb : Bits bits) (hn : bits.length ≤ 800000) (h : 0 ≤ b ∧ b ≤ 1)
    (q : ∀ Fp' H', SameX Fp H H' → (∀ x, Fp' x → Fp x ∨ H x = none) → ForAt K H' a Fp' ks (bits ++ [b]) → Q .non H') : F_Foreteller_see K (.ref a) (.int b) H Q E :=
  ⟨a, Fp, ks, bits, rfl, A, ok, hb, hn, .int, (fun z => by rw [btw, decide_eq_true h.1, decide_eq_true h.2] at z; cases z), fun b' e _ _ => by cases e; exact q⟩
section
variable (K : PySem.W.Frag)
/-- no list of texts -/
inductive LnBad (K : PySem.W.Frag) (H : Hp) : V → Prop
  | other {x : V} {tn : String} (t : TyX K H x (.type tn)) (k : kitB tn "list" = some false) (n : x ≠ .non) : LnBad K H x
  | lst {a : Addr} {xs : List V} {i : Nat} {v : V} (e : H a = some (.lst xs)) (l : xs.length ≤ 1000) (good : ∀ j w, j < i → xs[j]? = some w → SgT K H 1000 w true) (hv : xs[i]? = some v) (bad : SgT K H 1000 v false) : LnBad K H (.ref a)
theorem SgT.same {K : PySem.W.Frag} {m : Nat} {H H1 : Hp} {x : V} {b : Bool} (h : SgT K H m x b) (s : Same H H1) : SgT K H1 m x b := by
  cases h with
  | lst e l t => exact .lst (s _ _ e) l fun v hv => tyw_same s (t v hv)
  | other t k => exact .other (tyx_same s t) k
theorem LnBad.same {K : PySem.W.Frag} {H H1 : Hp} {x : V} (h : LnBad K H x) (s : Same H H1) : LnBad K H1 x := by
  cases h with
  | other t k n => exact .other (tyx_same s t) k n
  | lst e l g hv b => exact .lst (s _ _ e) l (fun j w hj hw => (g j w hj hw).same s) hv (b.same s)
def F_checked_learned (K : PySem.W.Frag) : V → Hp → VK → XK → Prop := fun x H Q E => (∃ ts, LearnT H x ts ∧ TsOk ts ∧ ∀ l tas H', H l = none → (∀ a ∈ tas, H a = none ∧ a ≠ l) → tas.Nodup → Same H H' → TextsH H' l tas ts → Q (.ref l) H') ∨ (LnBad K H x ∧ ∀ H', Same H H' → E (.ref (He.ga K "NoText")) none H')
theorem learned_of {K : PySem.W.Frag} {H : Hp} {Q : VK} {E : XK} {x : V} {ts : List (List Int)} (T : LearnT H x ts) (ok : TsOk ts) (q : ∀ l tas H', H l = none → Same H H' → TextsH H' l tas ts → Q (.ref l) H') : F_checked_learned K x H Q E :=
  .inl ⟨ts, T, ok, fun l tas H' nl _ _ s T' => q l tas H' nl s T'⟩
abbrev sp_checked_learned (K : PySem.W.Frag) : Sp := on1 (F_checked_learned K)
def F_learner (K : PySem.W.Frag) : V → V → Hp → VK → XK → Prop := fun x y H Q _ => ∃ (l t : Addr) (las tas : List Addr) (ks : List Lk) (ts : List (List Int)), x = .ref l ∧ y = .ref t ∧ LooksH H l las ks ∧ LksOk ks ∧ TextsH H t tas ts ∧ TsOk ts ∧ (dB ts).length ≤ 700000 ∧
  ∀ a Fp H', Same H H' → (∀ x, Fp x → H x = none) → ForAt K H' a Fp ks (dB ts) → Q (.ref a) H'
abbrev sp_learner (K : PySem.W.Frag) : Sp := on2 (F_learner K)
end
/-! ### foretold -/
def toldF (ks : List Lk) (b0 bs : List Int) : List (Int × Int) := bs.mapIdx fun i b => (chanceF ks (stF ks (b0 ++ bs.take i)), b)
def rowsF (ks : List Lk) (b0 bs : List Int) : List (List Int) := bs.mapIdx fun i _ => chancesF ks (stF ks (b0 ++ bs.take i))
theorem toldF_at {ks : List Lk} {b0 bs : List Int} {i : Nat} {b : Int} (h : bs[i]? = some b) : (toldF ks b0 bs)[i]? = some (chanceF ks (stF ks (b0 ++ bs.take i)), b) := by
  unfold toldF
  rw [List.getElem?_mapIdx, h]
  rfl
theorem toldF_len {ks : List Lk} {b0 bs : List Int} : (toldF ks b0 bs).length = bs.length := by unfold toldF; rw [List.length_mapIdx]
theorem rowsF_at {ks : List Lk} {b0 bs : List Int} {i : Nat} {b : Int} (h : bs[i]? = some b) : (rowsF ks b0 bs)[i]? = some (chancesF ks (stF ks (b0 ++ bs.take i))) := by
  unfold rowsF
  rw [List.getElem?_mapIdx, h]
  rfl
theorem rowsF_len {ks : List Lk} {b0 bs : List Int} : (rowsF ks b0 bs).length = bs.length := by unfold rowsF; rw [List.length_mapIdx]
structure ToldH (H : Hp) (r : Addr) (ps : List Addr) (tl : List (Int × Int)) : Prop where
  lst : H r = some (.lst (ps.map V.ref))
  len : ps.length = tl.length
  at_ : ∀ (i : Nat) p x, ps[i]? = some p → tl[i]? = some x → H p = some (.tup [.int x.1, .int x.2])
theorem ToldH.same {H H1 : Hp} {r : Addr} {ps : List Addr} {tl : List (Int × Int)} (h : ToldH H r ps tl) (s : Same H H1) : ToldH H1 r ps tl := ⟨s _ _ h.lst, h.len, fun i p x hp hx => s _ _ (h.at_ i p x hp hx)⟩
section
variable (K : PySem.W.Frag) [HasTup K "KINDS" [.str "even", .str "quick", .str "run"]]
def Asks (K : PySem.W.Frag) (x y z : V) (H : Hp) (ks : List Lk) (ns : List Int) (ts : List (List Int)) : Prop := ∃ (l ta : Addr) (las : List Addr), x = .ref l ∧ LooksH H l las ks ∧ LksOk ks ∧ y = .ref ta ∧ H ta = some (.lst (ns.map V.int)) ∧ TextOk 1000 ns ∧ LearnT H z ts ∧ TsOk ts ∧ (dB ts).length ≤ 600000
/-- looks, a text, learned texts, one of which is none: refused by the class C -/
inductive Bad3 (K : PySem.W.Frag) (x y z : V) (H : Hp) : Str → Prop
  | looks (h : LsT K H x false) : Bad3 K x y z H "NoLooks"
  | text {l : Addr} {las : List Addr} {ks : List Lk} (e : x = .ref l) (L : LooksH H l las ks) (ok : LksOk ks) (h : SgT K H 1000 y false) : Bad3 K x y z H "NoText"
  | learned {l ta : Addr} {las : List Addr} {ks : List Lk} {ns : List Int} (e : x = .ref l) (L : LooksH H l las ks) (ok : LksOk ks) (e2 : y = .ref ta) (ht : H ta = some (.lst (ns.map V.int))) (t : TextOk 1000 ns) (h : LnBad K H z) : Bad3 K x y z H "NoText"
def Bads (K : PySem.W.Frag) (x y z : V) (H : Hp) (E : XK) : Prop := ∃ C, Bad3 K x y z H C ∧ ∀ H', Same H H' → E (.ref (He.ga K C)) none H'
def F_foretold (K : PySem.W.Frag) : V → V → V → Hp → VK → XK → Prop := fun x y z H Q E => (∃ ks ns ts, Asks K x y z H ks ns ts ∧ ∀ r ps H', H r = none → Same H H' → ToldH H' r ps (toldF ks (dB ts) (decOf ns)) → Q (.ref r) H') ∨ Bads K x y z H E
abbrev sp_foretold (K : PySem.W.Frag) : Sp := on3 (F_foretold K)
end
/-! the laws' looks and texts, k23 to k28 -/
theorem Plc.take {ps : List Int} (h : Plc ps) (n : Nat) : Plc (ps.take n) := ⟨by have := h.len; rw [List.length_take]; omega, fun z hz => h.all z (List.mem_of_mem_take hz), h.up.sublist (List.take_sublist _ _)⟩
theorem plc_filter (p : Nat → Bool) : Plc ((((List.range 8).filter p).map fun (i : Nat) => (0 : Int) + (i : Int) + 1).take 4) := by
  refine ⟨by rw [List.length_take]; omega, fun z hz => ?_, ?_⟩
  · obtain ⟨i, hi, rfl⟩ := List.mem_map.mp (List.mem_of_mem_take hz)
    have := List.mem_range.mp (List.mem_filter.mp hi).1
    omega
  · refine List.Pairwise.sublist (List.take_sublist _ _) ?_
    rw [List.pairwise_map]
    exact List.Pairwise.imp (R := (· < ·)) (fun h => by omega) (List.Pairwise.filter p List.pairwise_lt_range)
theorem three20 {w : Int} : ∃ kind : Str, atI [V.str "even", V.str "quick", V.str "run"] (w % 3) = some (.str kind) ∧ (kind = "even" ∨ kind = "quick" ∨ kind = "run") := by
  have h : w % 3 = 0 ∨ w % 3 = 1 ∨ w % 3 = 2 := by omega
  rcases h with h | h | h <;> rw [h]
  · exact ⟨_, rfl, .inl rfl⟩
  · exact ⟨_, rfl, .inr (.inl rfl)⟩
  · exact ⟨_, rfl, .inr (.inr rfl)⟩
section
variable (K : PySem.W.Frag)
def F_Llook (K : PySem.W.Frag) : V → Hp → VK → XK → Prop := fun x H Q _ => ∃ n : Int, x = .int n ∧ ∀ p k H', LkOk k → H p = none → Same H H' → LookH H' p k → Q (.ref p) H'
abbrev sp_Llook (K : PySem.W.Frag) : Sp := on1 (F_Llook K)
def t_Llook (K : PySem.W.Frag) (E : XK) : TS :=
  tSeq (tAsg (tOp (rRest) (tOp (rFloor) (tVar 0) (tC (.int 3))) (tC (.int 256))) (gName 1))
  (tSeq (tAsg (tLc (iRng1 (tCons (tC (.int 8)) (tNil))) (gName 3) (tTest (tOp (rSame K) (tOp (rMask) (tOp (rRsh) (tVar 1) (tVar 3)) (tC (.int 1))) (tC (.int 1)))) (tOp (rPlus K) (tVar 3) (tC (.int 1))) [3]) (gName 2))
  (tSeq (tIfS (tTest (tOp (rSame K) (tOp (rRest) (tOp (rFloor) (tVar 0) (tC (.int 768))) (tC (.int 3))) (tC (.int 0)))) (tAsg (tSl (rSlL K) (tVar 2) (tNoPart) (tPart (tC (.int 1)))) (gName 2)) (tNext))
  (tRet (tTup (tCons (tOp (rIx K) (tLst (tCons (tC (.str "even")) (tCons (tC (.str "quick")) (tCons (tC (.str "run")) (tNil))))) (tOp (rRest) (tVar 0) (tC (.int 3)))) (tCons (tCB (rTupleOf K) (tCons (tSl (rSlL K) (tVar 2) (tNoPart) (tPart (tC (.int 4)))) (tNil))) (tNil)))))))
theorem pure_Llook {x : V} {H : Hp} {Q : VK} {E : XK} (h : F_Llook K x H Q E) : t_Llook K E ⟨fun _ H' => Q .non H', Q, fun _ _ => False, fun _ _ => False⟩ [some x, none, none, none] H := by
  refine Bx.out ?_
  simp (disch := with_unfolding_all
  obtain ⟨n, rfl, q⟩ := h
  unfold t_Llook
  walk_at "go"
  generalize n / 3 % 256 = u5
  refine lc_R1F (k := 8) rfl (by decide) (fun i => decide (u5 / 2 ^ i % 2 = 1)) (fun i => .int (0 + (i : Int) + 1)) (fun i hi H3 A B s3 ha hb => ?_) fun D H3 nD s3 eD => ?_
  · walk_at "go"
    refine g_rsh (by omega) ?_
    rw [show (0 + (i : Int)).toNat = i by omega]
    walk_at "go"
    refine dif (fun h => ?_) fun h => ?_
    · walk_at "go"
      exact ha (decide_eq_true h) _ (Same.refl _)
    · exact hb (decide_eq_false h) _ (Same.refl _)
  · have eD : H3 D = some (.lst ((((List.range 8).filter fun i => decide (u5 / 2 ^ i % 2 = 1)).map fun (i : Nat) => (0 : Int) + (i : Int) + 1).map V.int)) := by rw [eD, List.map_map]; rfl
    have P := plc_filter fun i => decide (u5 / 2 ^ i % 2 = 1)
    generalize (((List.range 8).filter fun i => decide (u5 / 2 ^ i % 2 = 1)).map fun (i : Nat) => (0 : Int) + (i : Int) + 1) = ps at eD P
    have tail : ∀ (H4 : Hp) (D : Addr) (qs : List Int), Same H H4 → H4 D = some (.lst (qs.map V.int)) → Plc (qs.take 4) → (tRet (tTup (tCons (tOp (rIx K) (tLst (tCons (tC (.str "even")) (tCons (tC (.str "quick")) (tCons (tC (.str "run")) (tNil))))) (tOp (rRest) (tVar 0) (tC (.int 3)))) (tCons (tCB (rTupleOf K) (tCons (tSl (rSlL K) (tVar 2) (tNoPart) (tPart (tC (.int 4)))) (tNil))) (tNil))))) ⟨fun _ H' => Q .non H', Q, fun _ _ => False, fun _ _ => False⟩ [some (.int n), some (.int u5), some (.ref D), none] H4 := by
      intro H4 D qs S4 eD P
      walk_at "go"
      intro t nt
      walk_at "go"
      obtain ⟨kind, ek, hk⟩ := three20 (w := n)
      refine g_ixL (sq_of upd_same) ek ?_
      have et : (upd H4 t (.lst [V.str "even", V.str "quick", V.str "run"])) t = some (.lst [V.str "even", V.str "quick", V.str "run"]) := upd_same
      have eD := lk_new (u := .lst [V.str "even", V.str "quick", V.str "run"]) eD nt
      have S4 := same_new (u := .lst [V.str "even", V.str "quick", V.str "run"]) S4 nt
      generalize upd H4 t (.lst [V.str "even", V.str "quick", V.str "run"]) = H5 at et eD S4
      clear nt
      walk_at "go"
      intro c nc
      have ec : (upd H5 c (.lst (cutV (qs.map V.int) none (some 4)))) c = some (.lst ((qs.take 4).map V.int)) := by rw [upd_same, cutV_map, show (some (4 : Int)) = some ((4 : Nat) : Int) from rfl, cutL_to]
      have S4 := same_new (u := .lst (cutV (qs.map V.int) none (some 4))) S4 nc
      generalize upd H5 c (.lst (cutV (qs.map V.int) none (some 4))) = H6 at ec S4
      walk_at "go"
      intro tp ntp
      have etp : (upd H6 tp (.tup ((qs.take 4).map V.int))) tp = some (.tup ((qs.take 4).map V.int)) := upd_same
      have S4 := same_new (u := .tup ((qs.take 4).map V.int)) S4 ntp
      generalize upd H6 tp (.tup ((qs.take 4).map V.int)) = H7 at etp S4
      clear ntp
      walk_at "go"
      intro lk nlk
      exact q lk (kind, qs.take 4) _ ⟨hk, P⟩ (S4.free nlk) (same_new S4 nlk) ⟨tp, upd_same, lk_new etp nlk⟩
    walk_at "go"
    refine dif (fun h => ?_) fun h => ?_
    · walk_at "go"
      intro c nc
      have ec : (upd H3 c (.lst (cutV (ps.map V.int) none (some 1)))) c = some (.lst ((ps.take 1).map V.int)) := by rw [upd_same, cutV_map, show (some (1 : Int)) = some ((1 : Nat) : Int) from rfl, cutL_to]
      have S4 := same_new (u := .lst (cutV (ps.map V.int) none (some 1))) s3 nc
      generalize upd H3 c (.lst (cutV (ps.map V.int) none (some 1))) = H4 at ec S4
      iterate 1 walk_at "go1"
      refine tail H4 c (ps.take 1) S4 ec ?_
      have := P.take 1
      rwa [List.take_take, show min 1 4 = 1 from rfl, ← show min 4 1 = 1 from rfl, ← List.take_take] at this
    · refine g_next ?_
      exact tail H3 D ps s3 eD P
  ) only [↓Bx.eq]
def F_Llooks (K : PySem.W.Frag) : V → Hp → VK → XK → Prop := fun x H Q _ => ∃ (a : Addr) (ns : List Int), x = .ref a ∧ SqL K H a (ns.map V.int) ∧ ∀ l las ks H', LksOk ks → H l = none → Same H H' → LooksH H' l las ks → Q (.ref l) H'
abbrev sp_Llooks (K : PySem.W.Frag) : Sp := on1 (F_Llooks K)
def t_Llooks (K : PySem.W.Frag) (E : XK) : TS :=
  tSeq (tAsg (tOp (rPlus K) (tC (.int 1)) (tOp (rRest) (tFun (sp_Lcell_at K) [] (fun _ => E) (tCons (tVar 0) (tCons (tC (.int 0)) (tNil)))) (tC (.int 3)))) (gName 1))
  (tSeq (tIfS (tTest (tOp (rSame K) (tOp (rRest) (tOp (rFloor) (tFun (sp_Lcell_at K) [] (fun _ => E) (tCons (tVar 0) (tCons (tC (.int 0)) (tNil)))) (tC (.int 3))) (tC (.int 8))) (tC (.int 1)))) (tAsg (tOp (rPlus K) (tVar 1) (tC (.int 3))) (gName 1)) (tNext))
  (tRet (tLc (iRng1 (tCons (tVar 1) (tNil))) (gName 2) (tYes) (tFun (sp_Llook K) [] (fun _ => E0) (tCons (tFun (sp_Lcell_at K) [] (fun _ => E0) (tCons (tVar 0) (tCons (tOp (rPlus K) (tC (.int 1)) (tVar 2)) (tNil)))) (tNil))) [2])))
theorem pure_Llooks {x : V} {H : Hp} {Q : VK} {E : XK} (h : F_Llooks K x H Q E) : t_Llooks K E ⟨fun _ H' => Q .non H', Q, fun _ _ => False, fun _ _ => False⟩ [some x, none, none] H := by
  refine Bx.out ?_
  simp (disch := with_unfolding_all
  obtain ⟨a, ns, rfl, hs, q⟩ := h
  have tail : ∀ m : Nat, 1 ≤ m → m ≤ 6 → (tRet (tLc (iRng1 (tCons (tVar 1) (tNil))) (gName 2) (tYes) (tFun (sp_Llook K) [] (fun _ => E0) (tCons (tFun (sp_Lcell_at K) [] (fun _ => E0) (tCons (tVar 0) (tCons (tOp (rPlus K) (tC (.int 1)) (tVar 2)) (tNil)))) (tNil))) [2])) ⟨fun _ H' => Q .non H', Q, fun _ _ => False, fun _ _ => False⟩ [some (.ref a), some (.int (m : Int)), none] H := by
    intro m m1 m6
    walk_at "go"
    refine lc_R1N (k := m) rfl (by omega) (fun D i ys H2 => H D = none ∧ ∃ las : List Addr, ∃ ks : List Lk, ys = las.map V.ref ∧ las.length = i ∧ ks.length = i ∧ Same H H2 ∧ H2 D = some (.lst ys) ∧ (∀ (j : Nat) x k, las[j]? = some x → ks[j]? = some k → LookH H2 x k) ∧ ∀ k ∈ ks, LkOk k)
      (fun D hD => ⟨hD, [], [], rfl, rfl, rfl, same_new (Same.refl _) hD, upd_same, fun j x k hx _ => by simp at hx, fun k hk => nomatch hk⟩) ?_ ?_ ?_
    · rintro D i ys H2 ⟨hD, las, ks, rfl, li, ki, s, eD, g, ok⟩
      exact ⟨eD, by rw [List.length_map]; exact li⟩
    · rintro D i ys H2 Q2 hi ⟨hD, las, ks, rfl, li, ki, s, eD, g, ok⟩ q2
      have hs2 := s.seq hs
      walk_at "go"
      refine ⟨a, ns, 1 + i, rfl, by congr 1, hs2, ?_⟩
      walk_at "go"
      refine ⟨_, rfl, fun p k H3 kok np s3 lk => ?_⟩
      have eD3 := s3 _ _ eD
      refine q2 _ _ eD3 ⟨hD, las ++ [p], ks ++ [k], by rw [List.map_append]; rfl, by rw [List.length_append, li]; rfl, by rw [List.length_append, ki]; rfl, same_mut (Same.trans s s3) hD, upd_same, ?_, fun k' hk' => ?_⟩
      · have L3 : LooksH H3 D las ks := ⟨eD3, by rw [li, ki], fun j x k hx hk => (g j x k hx hk).same s3⟩
        have X : SameX (· = D) H3 (upd H3 D (.lst (las.map V.ref ++ [.ref p]))) := (SameX.refl (M := (· = D)) H3).mut rfl
        have nt : ∀ b xs, H3 b = some (.tup xs) → ¬ b = D := fun b xs hb => ne_kind hb eD3 (by intro z; cases z)
        have up : ∀ {x : Addr} {k : Lk}, LookH H3 x k → LookH (upd H3 D (.lst (las.map V.ref ++ [.ref p]))) x k := fun ⟨b, h1, h2⟩ => ⟨b, X.kp _ _ (nt _ _ h1) h1, X.kp _ _ (nt _ _ h2) h2⟩
        intro j x k' hx hk'
        rw [List.getElem?_append] at hx hk'
        split at hx
        · rename_i c
          rw [if_pos (by omega)] at hk'
          exact up (L3.at_ j x k' hx hk')
        · rename_i c
          rw [if_neg (by omega)] at hk'
          have hj := (List.getElem?_eq_some_iff.mp hx).1
          rw [List.length_singleton] at hj
          have z : j = las.length := by omega
          subst z
          rw [Nat.sub_self] at hx
          rw [show las.length - ks.length = 0 by omega] at hk'
          cases hx
          cases hk'
          exact up lk
      · rcases List.mem_append.mp hk' with z | z
        · exact ok k' z
        · rw [List.mem_singleton.mp z]; exact kok
    · rintro D ys H3 ⟨hD, las, ks, rfl, li, ki, s, eD, g, ok⟩
      exact q D las ks H3 ⟨by omega, by omega, ok⟩ hD s ⟨eD, by rw [li, ki], g⟩
  unfold t_Llooks
  walk_at "go"
  refine ⟨a, ns, 0, rfl, rfl, hs, ?_⟩
  walk_at "go"
  refine ⟨a, ns, 0, rfl, rfl, hs, ?_⟩
  walk_at "go"
  generalize cell ns 0 % 1000000000000000000000000000000 = w
  refine dif (fun h => ?_) fun h => ?_
  · iterate 6 walk_at "go1"
    rw [show (1 + w % 3 + 3) = (((1 + w % 3 + 3).toNat : Nat) : Int) by omega]
    exact tail _ (by omega) (by omega)
  · refine g_next ?_
    rw [show (1 + w % 3) = (((1 + w % 3).toNat : Nat) : Int) by omega]
    exact tail _ (by omega) (by omega)
  ) only [↓Bx.eq]
def sgnF (n f : Int) : Int := if n % 4 = 0 then n / 4 % 256 else if n % 4 = 1 then f else if n % 4 = 2 then (if n / 4 % 2 = 0 then 0 else 255) else 97 + n / 4 % 2
theorem sgnF_ok (n : Int) {f : Int} (h : 0 ≤ f ∧ f ≤ 255) : 0 ≤ sgnF n f ∧ sgnF n f ≤ 255 := by
  unfold sgnF
  split
  · omega
  · split
    · exact h
    · split
      · split <;> omega
      · omega
def F_Lsign (K : PySem.W.Frag) : V → V → Hp → VK → XK → Prop := fun x y H Q _ => ∃ n f : Int, x = .int n ∧ y = .int f ∧ ∀ H', Same H H' → Q (.int (sgnF n f)) H'
abbrev sp_Lsign (K : PySem.W.Frag) : Sp := on2 (F_Lsign K)
def t_Lsign (K : PySem.W.Frag) (E : XK) : TS :=
  tSeq (tAsg (tOp (rRest) (tVar 0) (tC (.int 4))) (gName 2))
  (tSeq (tIfS (tTest (tOp (rSame K) (tVar 2) (tC (.int 0)))) (tRet (tOp (rRest) (tOp (rFloor) (tVar 0) (tC (.int 4))) (tC (.int 256)))) (tNext))
  (tSeq (tIfS (tTest (tOp (rSame K) (tVar 2) (tC (.int 1)))) (tRet (tVar 1)) (tNext))
  (tSeq (tIfS (tTest (tOp (rSame K) (tVar 2) (tC (.int 2)))) (tRet (tOp (rIx K) (tLst (tCons (tC (.int 0)) (tCons (tC (.int 255)) (tNil)))) (tOp (rRest) (tOp (rFloor) (tVar 0) (tC (.int 4))) (tC (.int 2))))) (tNext))
  (tRet (tOp (rPlus K) (tC (.int 97)) (tOp (rRest) (tOp (rFloor) (tVar 0) (tC (.int 4))) (tC (.int 2))))))))
theorem pure_Lsign {x y : V} {H : Hp} {Q : VK} {E : XK} (h : F_Lsign K x y H Q E) : t_Lsign K E ⟨fun _ H' => Q .non H', Q, fun _ _ => False, fun _ _ => False⟩ [some x, some y, none] H := by
  refine Bx.out ?_
  simp (disch := with_unfolding_all
  obtain ⟨n, f, rfl, rfl, q⟩ := h
  unfold sgnF at q
  unfold t_Lsign
  walk_at "go"
  refine dif (fun h => ?_) fun h => ?_
  · rw [if_pos h] at q
    walk_at "go"
    exact q H (Same.refl _)
  · rw [if_neg h] at q
    walk_at "go"
    refine dif (fun h => ?_) fun h => ?_
    · rw [if_pos h] at q
      walk_at "go"
      exact q H (Same.refl _)
    · rw [if_neg h] at q
      walk_at "go"
      refine dif (fun h => ?_) fun h => ?_
      · rw [if_pos h] at q
        walk_at "go"
        intro p np
        walk_at "go"
        have ev : atI [V.int 0, V.int 255] (n / 4 % 2) = some (.int (if n / 4 % 2 = 0 then 0 else 255)) := by
          have : n / 4 % 2 = 0 ∨ n / 4 % 2 = 1 := by omega
          rcases this with y | y <;> rw [y] <;> rfl
        refine g_ixL (sq_of upd_same) ev ?_
        exact q _ (same_new (Same.refl _) np)
      · rw [if_neg h] at q
        walk_at "go"
        exact q H (Same.refl _)
  ) only [↓Bx.eq]
def F_Ltext (K : PySem.W.Frag) : V → V → V → Hp → VK → XK → Prop := fun x y z H Q _ => ∃ (a : Addr) (cs : List Int) (k m : Nat), x = .ref a ∧ y = .int k ∧ z = .int m ∧ SqL K H a (cs.map V.int) ∧ m ≤ 1000 ∧ ∀ l ns H', H l = none → Same H H' → H' l = some (.lst (ns.map V.int)) → TextOk 1000 ns → ns.length = m → Q (.ref l) H'
abbrev sp_Ltext (K : PySem.W.Frag) : Sp := on3 (F_Ltext K)
def t_Ltext (K : PySem.W.Frag) (E : XK) : TS :=
  tSeq (tAsg (tOp (rRest) (tFun (sp_Lcell_at K) [] (fun _ => E) (tCons (tVar 0) (tCons (tC (.int 7)) (tNil)))) (tC (.int 256))) (gName 3))
  (tRet (tLc (iRng1 (tCons (tVar 2) (tNil))) (gName 4) (tYes) (tFun (sp_Lsign K) [] (fun _ => E0) (tCons (tFun (sp_Lcell_at K) [] (fun _ => E0) (tCons (tVar 0) (tCons (tOp (rPlus K) (tVar 1) (tVar 4)) (tNil)))) (tCons (tVar 3) (tNil)))) [4]))
theorem pure_Ltext {x y z : V} {H : Hp} {Q : VK} {E : XK} (h : F_Ltext K x y z H Q E) : t_Ltext K E ⟨fun _ H' => Q .non H', Q, fun _ _ => False, fun _ _ => False⟩ [some x, some y, some z, none, none] H := by
  refine Bx.out ?_
  simp (disch := with_unfolding_all
  obtain ⟨a, cs, k, m, rfl, rfl, rfl, hs, hm, q⟩ := h
  unfold t_Ltext
  walk_at "go"
  refine ⟨a, cs, 7, rfl, rfl, hs, ?_⟩
  walk_at "go"
  have fb : 0 ≤ cell cs 7 % 1000000000000000000000000000000 % 256 ∧ cell cs 7 % 1000000000000000000000000000000 % 256 ≤ 255 := by omega
  generalize cell cs 7 % 1000000000000000000000000000000 % 256 = f at fb
  refine lc_R1 (k := m) rfl (fun i => .int (sgnF (cell cs (k + i) % 1000000000000000000000000000000) f)) (by omega) (fun i hi D H2 Q2 s2 q2 => ?_) fun D H2 nD s2 eD => ?_
  · have hs2 := s2.seq hs
    walk_at "go"
    refine ⟨a, cs, k + i, rfl, by congr 1, hs2, ?_⟩
    walk_at "go"
    exact ⟨_, f, rfl, rfl, fun H3 s3 => q2 H3 s3⟩
  · have eD : H2 D = some (.lst (((List.range m).map fun i => sgnF (cell cs (k + i) % 1000000000000000000000000000000) f).map V.int)) := by rw [eD, List.map_map]; rfl
    exact q D _ H2 nD s2 eD ⟨by rw [List.length_map, List.length_range]; exact hm, fun z hz => by
      obtain ⟨i, _, rfl⟩ := List.mem_map.mp hz
      exact sgnF_ok _ fb⟩ (by rw [List.length_map, List.length_range])
  ) only [↓Bx.eq]
end
/-! ### ended, place -/
def goS (s : List Int × Int) (b : Int) : List Int × Int := (goE s.1 s.2 b, goP s.2 b)
def goF (s : List Int × Int) (bs : List Int) : List Int × Int := bs.foldl goS s
theorem goF_st (ks : List Lk) (bs : List Int) : ((stF ks bs).ended, (stF ks bs).place) = goF ([], 0) bs := by
  have key : ∀ (bs : List Int) (st : Fst), ((bs.foldl (seeF ks) st).ended, (bs.foldl (seeF ks) st).place) = goF (st.ended, st.place) bs := by
    intro bs
    induction bs with
    | nil => intro st; rfl
    | cons b bs ih => intro st; exact ih _
  exact key bs (st0 ks)
theorem goF_app (s : List Int × Int) (a b : List Int) : goF s (a ++ b) = goF (goF s a) b := by unfold goF; rw [List.foldl_append]
theorem go_one {e : List Int} {p b : Int} (hp : 0 < p) (h : 2 * p + b ≤ 255) : goS (e, p) b = (e, 2 * p + b) := by
  unfold goS goE goP
  rw [if_pos hp, if_neg (by omega), if_pos hp, if_neg (by omega)]
theorem go_end {e : List Int} {p b : Int} (hp : 0 < p) (h : 255 < 2 * p + b) : goS (e, p) b = (e ++ [2 * p + b - 256], 0) := by
  unfold goS goE goP
  rw [if_pos hp, if_pos (by omega), if_pos hp, if_pos (by omega)]
/-- amid a sign: behind its first r bits, r from 1 to 8 -/
def midP (s : Int) : Nat → Int
  | 0 => 1
  | r + 1 => 2 * midP s r + s / 2 ^ (7 - r) % 2
theorem midP_ok (s : Int) : ∀ r : Nat, 2 ^ r ≤ midP s r ∧ midP s r < 2 ^ (r + 1)
  | 0 => ⟨by show (2 : Int) ^ 0 ≤ 1; decide, by show (1 : Int) < 2 ^ (0 + 1); decide⟩
  | r + 1 => by
    obtain ⟨a, b⟩ := midP_ok s r
    show 2 ^ (r + 1) ≤ 2 * midP s r + s / 2 ^ (7 - r) % 2 ∧ 2 * midP s r + s / 2 ^ (7 - r) % 2 < 2 ^ (r + 1 + 1)
    have m0 := Int.emod_nonneg (s / 2 ^ (7 - r)) (show (2 : Int) ≠ 0 by decide)
    have m1 := Int.emod_lt_of_pos (s / 2 ^ (7 - r)) (show (0 : Int) < 2 by decide)
    rw [Int.pow_succ, Int.pow_succ]
    rw [Int.pow_succ] at b
    omega
theorem midP_8 {s : Int} (h : 0 ≤ s ∧ s ≤ 255) : 2 * midP s 7 + s / 2 ^ 0 % 2 - 256 = s := by
  simp only [midP]
  omega
theorem bits8_get (s : Int) {r : Nat} (h : r < 8) : (bits8 s)[r]? = some (s / 2 ^ (7 - r) % 2) := by
  unfold bits8
  rw [List.getElem?_map, List.getElem?_range h]
  show some (s / 2 ^ (7 - (r : Int)).toNat % 2) = _
  congr 4
  omega
theorem pow2_le {a b : Nat} (h : a ≤ b) : (2 : Int) ^ a ≤ 2 ^ b := by
  have c : ∀ k : Nat, (2 : Int) ^ k = ((2 ^ k : Nat) : Int) := fun k => by simp
  rw [c, c]
  exact Int.ofNat_le.mpr (Nat.pow_le_pow_right (by decide) h)
theorem go_mid {e : List Int} (s : Int) : ∀ r : Nat, r ≤ 7 → goF (e, 0) (1 :: (bits8 s).take r) = (e, midP s r)
  | 0, _ => by
    show goS (e, 0) 1 = (e, 1)
    unfold goS goE goP
    rw [if_neg (show ¬ (0 : Int) > 0 by decide), if_pos rfl, if_neg (show ¬ (0 : Int) > 0 by decide), if_pos rfl]
  | r + 1, h => by
    have ih := go_mid (e := e) s r (by omega)
    rw [List.take_add_one, bits8_get s (by omega), ← List.cons_append, goF_app, ih]
    obtain ⟨a, b⟩ := midP_ok s (r + 1)
    obtain ⟨c, _⟩ := midP_ok s r
    have p := pow2_le (a := 0) (b := r) (by omega)
    have q := pow2_le (a := r + 1 + 1) (b := 8) (by omega)
    show goS (e, midP s r) (s / 2 ^ (7 - r) % 2) = (e, midP s (r + 1))
    have nx : midP s (r + 1) = 2 * midP s r + s / 2 ^ (7 - r) % 2 := rfl
    rw [go_one (by omega) (by omega), nx]
theorem go_nine {e : List Int} {s : Int} (h : 0 ≤ s ∧ s ≤ 255) : goF (e, 0) (nine s) = (e ++ [s], 0) := by
  have g := go_mid (e := e) s 7 (Nat.le_refl _)
  have l8 : (bits8 s).length = 8 := by unfold bits8; rw [List.length_map, List.length_range]
  have e8 : bits8 s = (bits8 s).take 7 ++ [s / 2 ^ 0 % 2] := by
    have t := List.take_add_one (l := bits8 s) (i := 7)
    rw [bits8_get s (by omega), List.take_of_length_le (by omega)] at t
    exact t
  unfold nine
  rw [e8, ← List.cons_append, goF_app, g]
  obtain ⟨a, b⟩ := midP_ok s 7
  have m0 := Int.emod_nonneg (s / 2 ^ 0) (show (2 : Int) ≠ 0 by decide)
  show goS (e, midP s 7) (s / 2 ^ 0 % 2) = (e ++ [s], 0)
  have p : (2 : Int) ^ 7 = 128 := by decide
  rw [go_end (by omega) (by omega), midP_8 h]
theorem go_signs {e : List Int} : ∀ {ns : List Int}, (∀ z ∈ ns, 0 ≤ z ∧ z ≤ 255) → goF (e, 0) (ns.flatMap nine) = (e ++ ns, 0)
  | [], _ => by simp [goF]
  | s :: ns, h => by
    rw [List.flatMap_cons, goF_app, go_nine (h s List.mem_cons_self), go_signs fun z hz => h z (List.mem_cons_of_mem _ hz), List.append_assoc]
    rfl
theorem go_dec {e : List Int} {ns : List Int} (h : ∀ z ∈ ns, 0 ≤ z ∧ z ≤ 255) : goF (e, 0) (decOf ns) = ([], 0) := by
  unfold decOf
  rw [goF_app, go_signs h]
  show goS (e ++ ns, 0) 0 = ([], 0)
  unfold goS goE goP
  rw [if_neg (show ¬ (0 : Int) > 0 by decide), if_neg (show ¬ (0 : Int) = 1 by decide), if_neg (show ¬ (0 : Int) > 0 by decide), if_neg (show ¬ (0 : Int) = 1 by decide)]
theorem go_dB {ts : List (List Int)} (h : TsOk ts) : goF ([], 0) (dB ts) = ([], 0) := by
  have key : ∀ ts : List (List Int), (∀ t ∈ ts, TextOk 1000 t) → goF ([], 0) (dB ts) = ([], 0) := by
    intro ts
    induction ts with
    | nil => intro _; rfl
    | cons t ts ih =>
      intro h
      have e : dB (t :: ts) = decOf t ++ dB ts := rfl
      rw [e, goF_app, go_dec (h t List.mem_cons_self).all]
      exact ih fun u hu => h u (List.mem_cons_of_mem _ hu)
  exact key ts h.all
/-- behind the first j decisions of a text -/
theorem go_at2 {ns : List Int} (h : ∀ z ∈ ns, 0 ≤ z ∧ z ≤ 255) {j : Nat} (hj : j < (decOf ns).length) : ∃ p : Int, goF ([], 0) ((decOf ns).take j) = (ns.take (j / 9), p) ∧ 0 ≤ p ∧ (j % 9 = 0 → p = 0) ∧ (j % 9 ≠ 0 → 0 < p) := by
  rw [dec_len] at hj
  have base : ∀ i, i ≤ ns.length → (decOf ns).take (9 * i) = (ns.take i).flatMap nine := fun i hi => by
    unfold decOf
    rw [List.take_append_of_le_length (by rw [flat_len nine_len]; omega)]
    have e : ns.flatMap nine = (ns.take i).flatMap nine ++ (ns.drop i).flatMap nine := by rw [← List.flatMap_append, List.take_append_drop]
    rw [e, List.take_append_of_le_length (by rw [flat_len nine_len, List.length_take]; omega), List.take_of_length_le (by rw [flat_len nine_len, List.length_take]; omega)]
  have hi : j / 9 ≤ ns.length := by omega
  have g0 : goF ([], 0) ((decOf ns).take (9 * (j / 9))) = (ns.take (j / 9), 0) := by
    rw [base _ hi, go_signs fun z hz => h z (List.mem_of_mem_take hz)]
    rfl
  by_cases z : j % 9 = 0
  · have ej : j = 9 * (j / 9) := by omega
    exact ⟨0, by rw [← g0, ← ej], Int.le_refl _, fun _ => rfl, fun y => absurd z y⟩
  · have c : j / 9 < ns.length := by omega
    have hz : ns[j / 9]? = some ns[j / 9] := List.getElem?_eq_getElem c
    have p0 : 0 < midP ns[j / 9] (j % 9 - 1) := by
      obtain ⟨a, _⟩ := midP_ok ns[j / 9] (j % 9 - 1)
      have := pow2_le (a := 0) (b := j % 9 - 1) (by omega)
      have : (2 : Int) ^ 0 = 1 := rfl
      omega
    refine ⟨midP ns[j / 9] (j % 9 - 1), ?_, by omega, fun y => absurd y z, fun _ => p0⟩
    have ej : j = 9 * (j / 9) + j % 9 := by omega
    have et : (decOf ns).take j = (decOf ns).take (9 * (j / 9)) ++ ((decOf ns).drop (9 * (j / 9))).take (j % 9) := by
      conv => lhs; rw [ej]
      rw [List.take_add]
    rw [et, goF_app, g0, dec_drop hz]
    have er : j % 9 = (j % 9 - 1) + 1 := by omega
    rw [er, List.take_succ_cons, List.take_append_of_le_length (by unfold bits8; rw [List.length_map, List.length_range]; omega)]
    exact go_mid _ _ (by omega)
/-! the decisions of a text, by a law's own reckoning (k23 k25 k26) -/
theorem part8 : ∀ j : Nat, j < 8 → (128 : Int) / 2 ^ j = 2 ^ (7 - (j : Int)).toNat ∧ 0 < (128 : Int) / 2 ^ j ∧ (128 : Int) / 2 ^ j ≤ 128 := by decide
section
variable (K : PySem.W.Frag)
def F_Lbits (K : PySem.W.Frag) : V → Hp → VK → XK → Prop := fun x H Q _ => ∃ (a : Addr) (ns : List Int), x = .ref a ∧ H a = some (.lst (ns.map V.int)) ∧ ns.length ≤ 1000 ∧ ∀ l H', H l = none → Same H H' → H' l = some (.lst ((decOf ns).map V.int)) → Q (.ref l) H'
abbrev sp_Lbits (K : PySem.W.Frag) : Sp := on1 (F_Lbits K)
def t_Lbits (K : PySem.W.Frag) (E : XK) : TS :=
  tSeq (tAsg (tLst (tNil)) (gName 1))
  (tSeq (tFor (iList K (tVar 0)) (gName 2) (tSeq (tDrop (tBM K "list" (rAppend) (tVar 1) (tCons (tC (.int 1)) (tNil))))
  (tDrop (tBM K "list" (rExtend) (tVar 1) (tCons (tLc (iRng1 (tCons (tC (.int 8)) (tNil))) (gName 3) (tYes) (tOp (rRest) (tOp (rFloor) (tVar 2) (tOp (rRsh) (tC (.int 128)) (tVar 3))) (tC (.int 2))) [3]) (tNil))))))
  (tRet (tOp (rPlus K) (tVar 1) (tLst (tCons (tC (.int 0)) (tNil))))))
theorem pure_Lbits {x : V} {H : Hp} {Q : VK} {E : XK} (h : F_Lbits K x H Q E) : t_Lbits K E ⟨fun _ H' => Q .non H', Q, fun _ _ => False, fun _ _ => False⟩ [some x, none, none, none] H := by
  refine Bx.out ?_
  simp (disch := with_unfolding_all
  obtain ⟨t, ns, rfl, ht, hn, q⟩ := h
  unfold t_Lbits
  walk_at "go"
  intro D nD
  have S := same_new (u := .lst []) (Same.refl H) nD
  have eD : (upd H D (.lst [])) D = some (.lst []) := upd_same
  generalize upd H D (.lst []) = H1 at S eD
  walk_at "go"
  refine for_LI (sq_of (S _ _ ht)) (fun i σ H2 => ∃ u2, σ = [some (.ref t), some (.ref D), u2, none] ∧ Same H H2 ∧ H2 D = some (.lst (((ns.take i).flatMap nine).map V.int))) ?_ ?_ ?_ ?_
  · exact ⟨_, rfl, S, eD⟩
  · rintro i σ H2 ⟨u2, rfl, S, -⟩
    exact sq_of (S _ _ ht)
  · clear S eD
    rintro i z σ H2 hz ⟨u2, rfl, S, eD⟩
    have hi := (List.getElem?_eq_some_iff.mp hz).1
    have fl : ((ns.take i).flatMap nine).length ≤ 9000 := by
      have := dec_len (ns.take i)
      unfold decOf at this
      rw [List.length_append, List.length_singleton, List.length_take] at this
      omega
    have st : (ns.take (i + 1)).flatMap nine = (ns.take i).flatMap nine ++ nine z := by
      rw [take_snoc' hz, List.flatMap_append, List.flatMap_cons, List.flatMap_nil, List.append_nil]
    rw [st]
    generalize (ns.take i).flatMap nine = fs at eD fl
    walk_at "go"
    have S := same_mut (u := .lst (fs.map V.int ++ [.int 1])) S nD
    have eD : (upd H2 D (.lst (fs.map V.int ++ [.int 1]))) D = some (.lst ((fs ++ [1]).map V.int)) := by rw [upd_same, List.map_append]; rfl
    generalize upd H2 D (.lst (fs.map V.int ++ [.int 1])) = H3 at S eD
    refine lc_R1 (k := 8) rfl (fun j => .int (z / (128 / 2 ^ j) % 2)) (by decide) (fun j hj D2 H4 Q4 s4 k => ?_) fun c H4 nc s4 ec => ?_
    · obtain ⟨pj, p0, p1⟩ := part8 j hj
      walk_at "go"
      refine g_rsh (by omega) ?_
      rw [show (j : Int).toNat = j by omega]
      refine g_floor (cdw48 (by omega) (by omega)) ?_
      walk_at "go"
      exact k _ (Same.refl _)
    have eb : (List.range 8).map (fun (j : Nat) => V.int (z / (128 / 2 ^ j) % 2)) = (bits8 z).map V.int := by
      unfold bits8
      rw [List.map_map]
      refine List.map_congr_left fun j hj => ?_
      rw [(part8 j (List.mem_range.mp hj)).1]
      rfl
    rw [eb] at ec
    have eD4 := s4 _ _ eD
    have ncD : c ≠ D := fun y => by rw [y, eD] at nc; cases nc
    walk_at "go"
    refine g_extend eD4 ec ?_ ?_
    · exact Nat.le_trans (m := 1000000) (by rw [List.length_map, List.length_map, List.length_append, List.length_singleton]; unfold bits8; rw [List.length_map, List.length_range]; omega) (by decide)
    walk_at "go"
    refine ⟨_, rfl, same_mut (Same.trans S s4) nD, ?_⟩
    rw [upd_same, ← List.map_append, List.append_assoc]
    rfl
  · clear S eD
    rintro σ H2 ⟨u2, rfl, S, eD⟩
    rw [List.take_length] at eD
    have fl : (ns.flatMap nine).length ≤ 9000 := by
      have := dec_len ns
      unfold decOf at this
      rw [List.length_append, List.length_singleton] at this
      omega
    walk_at "go"
    intro c nc
    have eD := lk_new (u := .lst [V.int 0]) eD nc
    have S := same_new (u := .lst [V.int 0]) S nc
    have ec : (upd H2 c (.lst [V.int 0])) c = some (.lst [V.int 0]) := upd_same
    generalize upd H2 c (.lst [V.int 0]) = H3 at eD S ec
    walk_at "go"
    intro d nd
    exact q d _ (S.free nd) (same_new S nd) (by rw [upd_same]; unfold decOf; rw [List.map_append]; rfl)
  ) only [↓Bx.eq]
end
/-! looks and texts as data; copies -/
def dLk (k : Lk) : PyData := .tuple [.str k.1, .tuple (k.2.map PyData.int)]
def dLks (ks : List Lk) : PyData := .list (ks.map dLk)
def dTs (ts : List (List Int)) : PyData := .list (ts.map fun t => .list (t.map PyData.int))
theorem okd_nil {n : Nat} : ∀ d ∈ ([] : List PyData), Okd n d := fun d h => nomatch h
theorem okd_cons {n : Nat} {d : PyData} {ds : List PyData} (h : Okd n d) (hs : ∀ x ∈ ds, Okd n x) : ∀ x ∈ d :: ds, Okd n x := fun x hx => by
  rcases List.mem_cons.mp hx with rfl | hx
  · exact h
  · exact hs x hx
theorem Okd.mono {n m : Nat} {d : PyData} (h : Okd n d) (hm : n ≤ m) : Okd m d := ⟨h.lay, h.cl, Nat.le_trans h.dp hm⟩
theorem okd_lk {k : Lk} (h : LkOk k) : Okd 2 (dLk k) := by
  refine okd_tup (okd_cons (okd_str ?_) (okd_cons (okd_tup okd_ints) okd_nil))
  rcases h.kind with z | z | z <;> rw [z] <;> decide +kernel
theorem okd_lks {ks : List Lk} (h : LksOk ks) : Okd 3 (dLks ks) := okd_lst fun d hd => by
  obtain ⟨k, hk, rfl⟩ := List.mem_map.mp hd
  exact okd_lk (h.all k hk)
theorem okd_ts {ts : List (List Int)} : Okd 2 (dTs ts) := okd_lst fun d hd => by
  obtain ⟨t, _, rfl⟩ := List.mem_map.mp hd
  exact okd_lst okd_ints
theorem LookH.dp {K : PySem.W.Frag} {H : Hp} {a : Addr} {k : Lk} (h : LookH H a k) : Dp K H (.ref a) (dLk k) := by
  obtain ⟨b, h1, h2⟩ := h
  exact .tup (stt_of h1) (.cons (.str _) (.cons (.tup (stt_of h2) dpAll_ints) .nil))
theorem dpAll_of {α : Type} {K : PySem.W.Frag} {H : Hp} {f : α → PyData} : ∀ {as : List Addr} {xs : List α}, as.length = xs.length → (∀ (i : Nat) a x, as[i]? = some a → xs[i]? = some x → Dp K H (.ref a) (f x)) → DpAll K H (as.map V.ref) (xs.map f)
  | [], [], _, _ => .nil
  | [], _ :: _, h, _ => by simp at h
  | _ :: _, [], h, _ => by simp at h
  | a :: as, x :: xs, h, g => .cons (g 0 a x rfl rfl) (dpAll_of (by simpa using h) fun i b y hb hy => g (i + 1) b y (by simpa using hb) (by simpa using hy))
theorem LooksH.dp {K : PySem.W.Frag} {H : Hp} {l : Addr} {las : List Addr} {ks : List Lk} (h : LooksH H l las ks) : Dp K H (.ref l) (dLks ks) := .lst (sq_of h.lst) (dpAll_of h.len fun i a x ha hx => (h.at_ i a x ha hx).dp)
theorem TextsH.dp {K : PySem.W.Frag} {H : Hp} {l : Addr} {tas : List Addr} {ts : List (List Int)} (h : TextsH H l tas ts) : Dp K H (.ref l) (dTs ts) := .lst (sq_of h.lst) (dpAll_of h.len fun i a x ha hx => .lst (sq_of (h.at_ i a x ha hx)) dpAll_ints)
theorem dp_ints {K : PySem.W.Frag} {H : Hp} {l : Addr} {ns : List Int} (h : H l = some (.lst (ns.map V.int))) : Dp K H (.ref l) (.list (ns.map PyData.int)) := .lst (sq_of h) dpAll_ints
/-- looks, a text (or bytes), learned texts, as a law holds them -/
structure Hand3 (H : Hp) (h l t u : Addr) (las : List Addr) (ks : List Lk) (ns : List Int) (tas : List Addr) (ts : List (List Int)) : Prop where
  lst : H h = some (.lst [.ref l, .ref t, .ref u])
  lk : LooksH H l las ks
  tx : H t = some (.lst (ns.map V.int))
  ln : TextsH H u tas ts
theorem Hand3.same {H H1 : Hp} {h l t u : Addr} {las : List Addr} {ks : List Lk} {ns : List Int} {tas : List Addr} {ts : List (List Int)} (p : Hand3 H h l t u las ks ns tas ts) (s : Same H H1) : Hand3 H1 h l t u las ks ns tas ts := ⟨s _ _ p.lst, p.lk.same s, s _ _ p.tx, p.ln.same s⟩
def dH3 (ks : List Lk) (ns : List Int) (ts : List (List Int)) : PyData := .list [dLks ks, .list (ns.map PyData.int), dTs ts]
theorem Hand3.dp {K : PySem.W.Frag} {H : Hp} {h l t u : Addr} {las : List Addr} {ks : List Lk} {ns : List Int} {tas : List Addr} {ts : List (List Int)} (p : Hand3 H h l t u las ks ns tas ts) : Dp K H (.ref h) (dH3 ks ns ts) := .lst (sq_of p.lst) (.cons p.lk.dp (.cons (dp_ints p.tx) (.cons p.ln.dp .nil)))
theorem okd_h3 {ks : List Lk} {ns : List Int} {ts : List (List Int)} (h : LksOk ks) : Okd 4 (dH3 ks ns ts) := okd_lst (okd_cons (okd_lks h) (okd_cons ((okd_lst okd_ints).mono (n := 1) (by decide)) (okd_cons (okd_ts.mono (by decide)) okd_nil)))
theorem Hand3.diff {K : PySem.W.Frag} {H : Hp} {h l t u h' l' t' u' : Addr} {las las' : List Addr} {ks : List Lk} {ns : List Int} {tas tas' : List Addr} {ts : List (List Int)} {Q : VK} (p : Hand3 H h l t u las ks ns tas ts) (r : Hand3 H h' l' t' u' las' ks ns tas' ts) (ok : LksOk ks) (q : Q (.bl false) H) : rDiff K (.ref h) (.ref h') H Q :=
  g_diffD (b := true) p.dp r.dp (okd_h3 ok) (okd_h3 ok) (by decide) (by decide) ⟨fun _ => rfl, fun _ => rfl⟩ q
theorem ts_none {K : PySem.W.Frag} {H : Hp} {u e : Addr} {tas : List Addr} {ts : List (List Int)} {Q : VK} (p : TextsH H u tas ts) (he : H e = some (.lst [])) (q : Q (.bl (decide (ts = []))) H) : rSame K (.ref u) (.ref e) H Q :=
  g_sameD (n := 2) (m := 2) (d := dTs ts) (e := .list []) p.dp (.lst (sq_of he) .nil) okd_ts ((okd_lst okd_nil).mono (n := 1) (by decide)) (by decide) (by decide) (by
    rw [decide_eq_true_iff]
    unfold dTs
    rw [PyData.list.injEq, List.map_eq_nil_iff]) q
/-- [list(x) for x in u] -/
theorem lc_copy {K : PySem.W.Frag} {σ : St} {H : Hp} {Q : VK} {m : Nat} {l : Addr} {tas : List Addr} {ts : List (List Int)} (T : TextsH H l tas ts) (tl : ts.length ≤ 1000) (hm : m < σ.length) (q : ∀ D nas H3, H D = none → Same H H3 → TextsH H3 D nas ts → Q (.ref D) H3) :
    lcLK K (gName m) tYes (tCB (rListOf K) (tCons (tVar m) tNil)) [m] σ (.ref l) H Q := by
  have ll := T.len
  refine lc_LN (sq_of T.lst) (by rw [List.length_map]; omega) (fun D i ys H3 => H D = none ∧ ∃ nas : List Addr, ys = nas.map V.ref ∧ nas.length = i ∧ i ≤ tas.length ∧ Same H H3 ∧ H3 D = some (.lst ys) ∧ ∀ (j : Nat) a t, nas[j]? = some a → ts[j]? = some t → H3 a = some (.lst (t.map V.int)) ∧ a ≠ D)
    (fun D hD => ⟨hD, [], rfl, rfl, Nat.zero_le _, same_new (Same.refl _) hD, upd_same, fun j a t ha _ => by simp at ha⟩) ?_ ?_ ?_
  · rintro D i ys H3 ⟨hD, nas, rfl, rfl, hi, s, eD, g⟩
    exact ⟨sq_of (s _ _ T.lst), eD, by rw [List.length_map]⟩
  · rintro D i v ys H3 Q2 hv ⟨hD, nas, rfl, ni, hi, s, eD, g⟩ q2
    obtain ⟨ta, hta, rfl⟩ := map_at hv
    have hi := (List.getElem?_eq_some_iff.mp hta).1
    have ht : ts[i]? = some (ts[i]'(by omega)) := List.getElem?_eq_getElem (by omega)
    generalize ts[i]'(by omega) = t at ht
    show tCB (rListOf K) (tCons (tVar m) tNil) ((σ.set m none).set m (some (.ref ta))) H3 Q2
    refine ⟨.ref ta, ?_, ?_⟩
    · rw [List.set_set, List.getElem?_set, if_pos rfl, if_pos hm]
    · refine g_listL (sq_of (s _ _ (T.at_ i ta t hta ht))) fun a na => ?_
      have naD : a ≠ D := fun z => by rw [z, eD] at na; cases na
      have s4 := same_new (u := .lst (t.map V.int)) (Same.refl H3) na
      refine q2 _ _ (lk_new eD na) ⟨hD, nas ++ [a], by rw [List.map_append]; rfl, by rw [List.length_append, List.length_singleton, ni], by omega, same_mut (Same.trans s s4) hD, upd_same, fun j a' t' ha' ht' => ?_⟩
      by_cases z : j = i
      · subst z
        rw [ht] at ht'
        cases ht'
        have : a' = a := by
          rw [List.getElem?_append_right (by omega), ni, Nat.sub_self] at ha'
          cases ha'
          rfl
        subst this
        exact ⟨lk_mut naD upd_same, naD⟩
      · have hj : nas[j]? = some a' := by
          rw [List.getElem?_append] at ha'
          split at ha'
          · exact ha'
          · rename_i c
            have := (List.getElem?_eq_some_iff.mp ha').1
            rw [List.length_singleton] at this
            omega
        obtain ⟨g1, g2⟩ := g j a' t' hj ht'
        exact ⟨lk_mut g2 (lk_new g1 na), g2⟩
  · rintro D ys H3 ⟨hD, nas, rfl, ni, -, s, eD, g⟩
    rw [List.length_map] at ni
    exact q D nas H3 hD s ⟨eD, by rw [ni, ll], fun j a t ha ht => (g j a t ha ht).1⟩
/-! looks and texts in the hands of a law: plain lemmas (cut out of Fam30, K31, K33) -/
def Byts' (d : List Int) : Prop := ∀ z ∈ d, 0 ≤ z ∧ z ≤ 255
theorem ix_at {ns : List Int} {k : Nat} {z : Int} (h : ns[k]? = some z) : atI (ns.map V.int) (k : Int) = some (.int z) := atI_nat (by rw [List.getElem?_map, h]; rfl)
theorem three' {w : Int} : ∃ kind : Str, atI [V.str "even", V.str "quick", V.str "run"] (w % 3) = some (.str kind) ∧ (kind = "even" ∨ kind = "quick" ∨ kind = "run") := by
  have h : w % 3 = 0 ∨ w % 3 = 1 ∨ w % 3 = 2 := by omega
  rcases h with h | h | h <;> rw [h]
  · exact ⟨_, rfl, .inl rfl⟩
  · exact ⟨_, rfl, .inr (.inl rfl)⟩
  · exact ⟨_, rfl, .inr (.inr rfl)⟩
theorem LooksH.snoc {H : Hp} {l a : Addr} {las : List Addr} {ks : List Lk} {k : Lk} (h : LooksH H l las ks) (e : LookH H a k) : LooksH (upd H l (.lst (las.map V.ref ++ [.ref a]))) l (las ++ [a]) (ks ++ [k]) := by
  have nl : ∀ {x : Addr} {xs : List V}, H x = some (.tup xs) → x ≠ l := fun z => ne_kind z h.lst (by intro z; cases z)
  have up : ∀ {x : Addr} {k : Lk}, LookH H x k → LookH (upd H l (.lst (las.map V.ref ++ [.ref a]))) x k := fun ⟨b, h1, h2⟩ => ⟨b, lk_mut (nl h1) h1, lk_mut (nl h2) h2⟩
  have ll := h.len
  refine ⟨by rw [upd_same, List.map_append]; rfl, by rw [List.length_append, List.length_append, ll]; rfl, fun i x y hx hy => ?_⟩
  rw [List.getElem?_append] at hx hy
  split at hx
  · rename_i c
    rw [if_pos (by omega)] at hy
    exact up (h.at_ i x y hx hy)
  · rename_i c
    rw [if_neg (by omega)] at hy
    have hi := (List.getElem?_eq_some_iff.mp hx).1
    rw [List.length_singleton] at hi
    have z : i = las.length := by omega
    subst z
    rw [Nat.sub_self] at hx
    rw [ll, Nat.sub_self] at hy
    cases hx
    cases hy
    exact up e
theorem TextsH.snoc {H : Hp} {l a : Addr} {tas : List Addr} {ts : List (List Int)} {t : List Int} (h : TextsH H l tas ts) (e : H a = some (.lst (t.map V.int))) (nl : ∀ x ∈ tas, x ≠ l) (na : a ≠ l) : TextsH (upd H l (.lst (tas.map V.ref ++ [.ref a]))) l (tas ++ [a]) (ts ++ [t]) := by
  have ll := h.len
  refine ⟨by rw [upd_same, List.map_append]; rfl, by rw [List.length_append, List.length_append, ll]; rfl, fun i x y hx hy => ?_⟩
  rw [List.getElem?_append] at hx hy
  split at hx
  · rename_i c
    rw [if_pos (by omega)] at hy
    exact lk_mut (nl x (List.mem_of_getElem? hx)) (h.at_ i x y hx hy)
  · rename_i c
    rw [if_neg (by omega)] at hy
    have hi := (List.getElem?_eq_some_iff.mp hx).1
    rw [List.length_singleton] at hi
    have z : i = tas.length := by omega
    subst z
    rw [Nat.sub_self] at hx
    rw [ll, Nat.sub_self] at hy
    cases hx
    cases hy
    exact lk_mut na e
theorem LooksH.copy {H : Hp} {l a : Addr} {las : List Addr} {ks : List Lk} (h : LooksH H l las ks) (na : H a = none) : LooksH (upd H a (.lst (las.map V.ref))) a las ks := ⟨upd_same, h.len, (h.same (same_new (Same.refl _) na)).at_⟩
theorem LooksH.take1 {H : Hp} {l a : Addr} {las : List Addr} {ks : List Lk} (h : LooksH H l las ks) (na : H a = none) : LooksH (upd H a (.lst (cutV (las.map V.ref) none (some 1)))) a (las.take 1) (ks.take 1) := by
  have hl := h.len
  refine ⟨by rw [upd_same, cutV_map, show (some (1 : Int)) = some ((1 : Nat) : Int) from rfl, cutL_to], by rw [List.length_take, List.length_take, hl], fun i x y hx hy => ?_⟩
  have hi := (List.getElem?_eq_some_iff.mp hx).1
  rw [List.length_take] at hi
  rw [List.getElem?_take_of_lt (by omega)] at hx hy
  exact (h.at_ i x y hx hy).same (same_new (Same.refl _) na)
theorem pair_same {K : PySem.W.Frag} {H : Hp} {p q l m : Addr} {ns : List Int} {i : Int} {Q : VK} (h1 : H p = some (.tup [.ref l, .int i])) (h2 : H q = some (.tup [.ref m, .int i])) (e1 : H l = some (.lst (ns.map V.int))) (e2 : H m = some (.lst (ns.map V.int))) (k : Q (.bl true) H) : rSame K (.ref p) (.ref q) H Q :=
  have d : ∀ {p l : Addr}, H p = some (.tup [.ref l, .int i]) → H l = some (.lst (ns.map V.int)) → Dp K H (.ref p) (.tuple [.list (ns.map PyData.int), .int i]) := fun a b => .tup (stt_of a) (.cons (dp_ints b) (.cons (.int _) .nil))
  have o : Okd 2 (.tuple [.list (ns.map PyData.int), .int i]) := okd_tup (okd_cons (okd_lst okd_ints) (okd_cons okd_int okd_nil))
  g_sameD (b := true) (d h1 e1) (d h2 e2) o o (by decide) (by decide) ⟨fun _ => rfl, fun _ => rfl⟩ k
theorem small_dB {ts : List (List Int)} {m : Nat} (h : ts.length ≤ 10) (hm : m ≤ 1000) (a : ∀ t ∈ ts, t.length ≤ m) : (dB ts).length ≤ 600000 := by
  have key : ∀ ts : List (List Int), (∀ t ∈ ts, t.length ≤ m) → (dB ts).length ≤ ts.length * 9001 := by
    intro ts
    induction ts with
    | nil => intro _; exact Nat.le_refl _
    | cons t ts ih =>
      intro a
      have e : dB (t :: ts) = decOf t ++ dB ts := rfl
      have := a t List.mem_cons_self
      rw [e, List.length_append, dec_len, List.length_cons]
      have := ih fun u hu => a u (List.mem_cons_of_mem _ hu)
      omega
  have := key ts a
  omega
theorem ix_ref {as : List Addr} {k : Nat} {a : Addr} (h : as[k]? = some a) : atI (as.map V.ref) (k : Int) = some (.ref a) := atI_nat (by rw [List.getElem?_map, h]; rfl)
/-! lists of texts made by comprehensions -/
theorem TextsH.takeN {H : Hp} {u c : Addr} {tas : List Addr} {ts : List (List Int)} {m : Nat} (h : TextsH H u tas ts) (nc : H c = none) : TextsH (upd H c (.lst (cutV (tas.map V.ref) none (some (m : Int))))) c (tas.take m) (ts.take m) := by
  refine ⟨by rw [upd_same, cutV_map, cutL_to], by rw [List.length_take, List.length_take, h.len], fun i a t ha ht => ?_⟩
  have ia := (List.getElem?_eq_some_iff.mp ha).1
  rw [List.length_take] at ia
  rw [List.getElem?_take_of_lt (by omega)] at ha ht
  exact lk_new (h.at_ i a t ha ht) nc
section
variable {K : PySem.W.Frag} {σ : St} {H : Hp} {Q : VK} {te : TE} {m : Nat} {l : Addr} {tas : List Addr} {ts : List (List Int)}
/-- what holds of a list of new texts while it is made -/
def NewT (H : Hp) (D : Addr) (i : Nat) (ys : List V) (H3 : Hp) (f : Nat → List Int) : Prop := H D = none ∧ ∃ nas : List Addr, ys = nas.map V.ref ∧ nas.length = i ∧ Same H H3 ∧ H3 D = some (.lst ys) ∧ ∀ (j : Nat) a, nas[j]? = some a → H3 a = some (.lst ((f j).map V.int)) ∧ a ≠ D ∧ H a = none
theorem NewT.step {D b : Addr} {i : Nat} {ys : List V} {H3 H4 : Hp} {f : Nat → List Int} (h : NewT H D i ys H3 f) (nb : H3 b = none) (s : Same H3 H4) (eb : H4 b = some (.lst ((f i).map V.int))) : H4 D = some (.lst ys) ∧ NewT H D (i + 1) (ys ++ [.ref b]) (upd H4 D (.lst (ys ++ [.ref b]))) f := by
  obtain ⟨hD, nas, rfl, ni, S, eD, g⟩ := h
  have nbD : b ≠ D := fun z => by rw [z, eD] at nb; cases nb
  refine ⟨s _ _ eD, hD, nas ++ [b], by rw [List.map_append]; rfl, by rw [List.length_append, List.length_singleton, ni], same_mut (Same.trans S s) hD, upd_same, fun j a ha => ?_⟩
  rw [List.getElem?_append] at ha
  split at ha
  · obtain ⟨g1, g2, g3⟩ := g j a ha
    exact ⟨lk_mut g2 (s _ _ g1), g2, g3⟩
  · rename_i c
    have := (List.getElem?_eq_some_iff.mp ha).1
    rw [List.length_singleton] at this
    have e : j = i := by omega
    subst e
    rw [ni, Nat.sub_self] at ha
    cases ha
    exact ⟨lk_mut nbD eb, nbD, S.free nb⟩
/-- [new text of x for x in u] -/
theorem lc_newT (T : TextsH H l tas ts) (tl : ts.length ≤ 1000) (f : List Int → List Int)
    (he : ∀ (i : Nat) (a : Addr) (t : List Int) (H2 : Hp) (Q2 : VK), tas[i]? = some a → ts[i]? = some t → Same H H2 → (∀ (b : Addr) (H3 : Hp), H2 b = none → Same H2 H3 → H3 b = some (.lst ((f t).map V.int)) → Q2 (.ref b) H3) → asgn m (fun σ2 H2 => te σ2 H2 Q2) (.ref a) (σ.set m none) H2)
    (q : ∀ D nas H3, H D = none → Same H H3 → (∀ a ∈ nas, H a = none ∧ a ≠ D) → TextsH H3 D nas (ts.map f) → Q (.ref D) H3) : lcLK K (gName m) tYes te [m] σ (.ref l) H Q := by
  have ll := T.len
  refine lc_LN (sq_of T.lst) (by rw [List.length_map]; omega) (fun D i ys H3 => NewT H D i ys H3 (fun j => f (ts.getD j []))) (fun D hD => ⟨hD, [], rfl, rfl, same_new (Same.refl _) hD, upd_same, fun j a ha => by simp at ha⟩) ?_ ?_ ?_
  · rintro D i ys H3 ⟨hD, nas, rfl, rfl, s, eD, g⟩
    exact ⟨sq_of (s _ _ T.lst), eD, by rw [List.length_map]⟩
  · rintro D i v ys H3 Q2 hv N q2
    obtain ⟨ta, hta, rfl⟩ := map_at hv
    have hi := (List.getElem?_eq_some_iff.mp hta).1
    have ht : ts[i]? = some (ts[i]'(by omega)) := List.getElem?_eq_getElem (by omega)
    obtain ⟨hD, nas, e1, e2, S, eD, g⟩ := id N
    refine he i ta _ H3 _ hta ht S fun b H4 nb s eb => ?_
    have eb : H4 b = some (.lst ((f (ts.getD i [])).map V.int)) := by rw [eb, List.getD_eq_getElem?_getD, ht]; rfl
    obtain ⟨a1, a2⟩ := N.step nb s eb
    exact q2 _ _ a1 a2
  · rintro D ys H3 ⟨hD, nas, rfl, ni, s, eD, g⟩
    rw [List.length_map] at ni
    refine q D nas H3 hD s (fun a ha => ?_) ⟨eD, by rw [List.length_map]; omega, fun j a t ha ht => ?_⟩
    · obtain ⟨j, hj⟩ := List.getElem?_of_mem ha
      exact ⟨(g j a hj).2.2, (g j a hj).2.1⟩
    · obtain ⟨x, hx, rfl⟩ : ∃ x, ts[j]? = some x ∧ f x = t := by
        rw [List.getElem?_map] at ht
        cases e : ts[j]? with
        | none => rw [e] at ht; cases ht
        | some x => rw [e] at ht; exact ⟨x, rfl, Option.some.inj ht⟩
      have e : ts.getD j [] = x := by rw [List.getD_eq_getElem?_getD, hx]; rfl
      rw [← e]
      exact (g j a ha).1
/-- [new text of k for k in range(n)] -/
theorem lc_newR {n : Nat} {j : Int} (hj : j = (n : Int)) (hn : n ≤ 1000) (f : Nat → List Int)
    (he : ∀ (i : Nat) (H2 : Hp) (Q2 : VK), i < n → Same H H2 → (∀ (b : Addr) (H3 : Hp), H2 b = none → Same H2 H3 → H3 b = some (.lst ((f i).map V.int)) → Q2 (.ref b) H3) → asgn m (fun σ2 H2 => te σ2 H2 Q2) (.int (i : Int)) (σ.set m none) H2)
    (q : ∀ D nas H3, H D = none → Same H H3 → (∀ a ∈ nas, H a = none ∧ a ≠ D) → TextsH H3 D nas ((List.range n).map f) → Q (.ref D) H3) : lcR1K (gName m) tYes te [m] σ [.int j] H Q := by
  refine lc_R1N (k := n) hj (by omega) (fun D i ys H3 => NewT H D i ys H3 f) (fun D hD => ⟨hD, [], rfl, rfl, same_new (Same.refl _) hD, upd_same, fun j a ha => by simp at ha⟩) ?_ ?_ ?_
  · rintro D i ys H3 ⟨hD, nas, rfl, rfl, s, eD, g⟩
    exact ⟨eD, by rw [List.length_map]⟩
  · rintro D i ys H3 Q2 hi N q2
    obtain ⟨hD, nas, e1, e2, S, eD, g⟩ := id N
    refine he i H3 _ hi S fun b H4 nb s eb => ?_
    obtain ⟨a1, a2⟩ := N.step nb s eb
    exact q2 _ _ a1 a2
  · rintro D ys H3 ⟨hD, nas, rfl, ni, s, eD, g⟩
    refine q D nas H3 hD s (fun a ha => ?_) ⟨eD, by rw [List.length_map, List.length_range]; omega, fun j a t ha ht => ?_⟩
    · obtain ⟨j, hj⟩ := List.getElem?_of_mem ha
      exact ⟨(g j a hj).2.2, (g j a hj).2.1⟩
    · have hi := (List.getElem?_eq_some_iff.mp ht).1
      rw [List.length_map, List.length_range] at hi
      rw [List.getElem?_map, List.getElem?_range hi] at ht
      cases ht
      exact (g j a ha).1
end
/-! a mixer, reckoned by a law (beside a foreteller's own mixer) -/
theorem cdw48' {i j : Int} (h : 0 < j) (h2 : j < 1099511627776) : CDivW i j := cdw48 h (by omega)
def F_Lmixed (K : PySem.W.Frag) : V → V → Hp → VK → XK → Prop := fun x y H Q _ => ∃ (p r : Addr) (ws cs : List Int) (m : Nat), x = .ref p ∧ y = .ref r ∧ H p = some (.lst (ws.map V.int)) ∧ H r = some (.lst (cs.map V.int)) ∧ MOk m ws ∧ COk m cs ∧ Q (.int (mixedS ws cs)) H
abbrev sp_Lmixed (K : PySem.W.Frag) : Sp := on2 (F_Lmixed K)
def t_Lmixed (K : PySem.W.Frag) (E : XK) : TS :=
  tSeq (tAsg (tC (.int 0)) (gName 2))
  (tSeq (tFor (iRng1 (tCons (tCB (rLength K) (tCons (tVar 0) (tNil))) (tNil))) (gName 3) (tAsg (tOp (rPlus K) (tVar 2) (tOp (rTimes) (tOp (rIx K) (tVar 0) (tVar 3)) (tOp (rIx K) (tVar 1) (tVar 3)))) (gName 2)))
  (tRet (tOp (rFloor) (tVar 2) (tCB (rSum K) (tCons (tVar 0) (tNil))))))
theorem pure_Lmixed (K : PySem.W.Frag) {x y : V} {H : Hp} {Q : VK} {E : XK} (h : F_Lmixed K x y H Q E) : t_Lmixed K E ⟨fun _ H' => Q .non H', Q, fun _ _ => False, fun _ _ => False⟩ [some x, some y, none, none] H := by
  refine Bx.out ?_
  simp (disch := with_unfolding_all
  obtain ⟨p, r, ws, cs, m, rfl, rfl, hp, hr, w, c, q⟩ := h
  obtain ⟨s1, s2⟩ := sum_ge w.pos
  have sm := w.sum
  have m1 := w.m1
  have m6 := w.m6
  have wl := w.len
  have cl := c.len
  unfold t_Lmixed
  walk_at "go"
  rw [List.length_map]
  refine for_R1 (k := ws.length) rfl (by omega) (fun i σ H1 => ∃ v, σ = [some (.ref p), some (.ref r), some (.int (dotS (ws.take i) (cs.take i))), v] ∧ H1 = H) ⟨_, rfl, rfl⟩ ?_ ?_
  · rintro i σ H1 hi ⟨v, rfl, rfl⟩
    have hz : ws[i]? = some ws[i] := List.getElem?_eq_getElem hi
    have hd : cs[i]? = some (cs[i]'(by omega)) := List.getElem?_eq_getElem (by omega)
    generalize ws[i] = z at hz
    generalize cs[i]'(by omega) = d at hd
    obtain ⟨d1, d2⟩ := c.all d (List.mem_of_getElem? hd)
    walk_at "go"
    refine g_ixL (sq_of hp) (ix_at hz) ?_
    walk_at "go"
    refine g_ixL (sq_of hr) (ix_at hd) ?_
    walk_at "go"
    refine ⟨some (.int i), ?_, rfl⟩
    unfold dotS
    rw [dot_take _ hz hd, List.sum_append, List.sum_cons, List.sum_nil, Int.add_zero]
  · rintro σ H1 ⟨v, rfl, rfl⟩
    rw [List.take_length, List.take_of_length_le (by omega)]
    walk_at "go"
    refine g_sum (ns := ws) (sq_of hp) ?_
    walk_at "go"
    exact g_floor (cdw48 (by omega) sm) q
  ) only [↓Bx.eq]
def F_Llearnt (K : PySem.W.Frag) : V → V → V → Hp → VK → XK → Prop := fun x y z H Q _ => ∃ (p r : Addr) (ws cs : List Int) (m : Nat) (t : Int), x = .ref p ∧ y = .ref r ∧ z = .int t ∧ (0 ≤ t ∧ t ≤ 1) ∧ H p = some (.lst (ws.map V.int)) ∧ H r = some (.lst (cs.map V.int)) ∧ MOk m ws ∧ COk m cs ∧
  ∀ l H', H l = none → Same H H' → H' l = some (.lst ((learnS ws cs t).map V.int)) → Q (.ref l) H'
abbrev sp_Llearnt (K : PySem.W.Frag) : Sp := on3 (F_Llearnt K)
theorem parts_le (t : Int) : ∀ {ws cs : List Int}, (∀ w ∈ ws, 1 ≤ w) → (∀ c ∈ cs, 32768 ≤ c ∧ c ≤ 16744448) → (partsS ws cs t).sum ≤ 16744448 * ws.sum
  | [], _, _, _ => by simp [partsS]
  | w :: ws, [], hw, _ => by
    have := (sum_ge hw).1
    simp only [partsS, List.zipWith_nil_right, List.sum_nil]
    omega
  | w :: ws, c :: cs, hw, hc => by
    have ih := parts_le t (ws := ws) (cs := cs) (fun w h => hw w (List.mem_cons_of_mem _ h)) (fun c h => hc c (List.mem_cons_of_mem _ h))
    have w1 := hw w List.mem_cons_self
    have g := (gave_ok (b := t) (hc c List.mem_cons_self)).2
    unfold partsS at ih ⊢
    rw [List.zipWith_cons_cons, List.sum_cons, List.sum_cons, Int.mul_add]
    have : w * gave c t ≤ w * 16744448 := Int.mul_le_mul_of_nonneg_left g (by omega)
    omega
def t_Llearnt (K : PySem.W.Frag) (E : XK) : TS :=
  tSeq (tAsg (tCB (rLength K) (tCons (tVar 0) (tNil))) (gName 3))
  (tSeq (tAsg (tLst (tNil)) (gName 4))
  (tSeq (tFor (iRng1 (tCons (tVar 3) (tNil))) (gName 5) (tSeq (tAsg (tOp (rIx K) (tVar 1) (tVar 5)) (gName 6))
  (tSeq (tIfS (tTest (tOp (rSame K) (tVar 2) (tC (.int 0)))) (tAsg (tOp (rMinus) (tOp (rLsh) (tC (.int 1)) (tC (.int 24))) (tOp (rIx K) (tVar 1) (tVar 5))) (gName 6)) (tNext))
  (tDrop (tBM K "list" (rAppend) (tVar 4) (tCons (tOp (rTimes) (tOp (rIx K) (tVar 0) (tVar 5)) (tVar 6)) (tNil)))))))
  (tSeq (tAsg (tLc (iList K (tVar 4)) (gName 10) (tYes) (tOp (rPlus K) (tOp (rTimes) (tOp (rTimes) (tC (.int 31)) (tVar 3)) (tVar 10)) (tCB (rSum K) (tCons (tVar 4) (tNil)))) [10]) (gName 7))
  (tSeq (tAsg (tCB (rSum K) (tCons (tVar 7) (tNil))) (gName 8))
  (tSeq (tAsg (tC (.int 1)) (gName 9))
  (tSeq (tWhile (tTest (tOp (iGe) (tVar 8) (tOp (rLsh) (tC (.int 1)) (tC (.int 48))))) (tSeq (tAsg (tOp (rFloor) (tVar 8) (tC (.int 2))) (gName 8))
  (tAsg (tOp (rTimes) (tC (.int 2)) (tVar 9)) (gName 9))))
  (tRet (tLc (iList K (tVar 7)) (gName 11) (tYes) (tOp (rFloor) (tVar 11) (tVar 9)) [11]))))))))
theorem pure_Llearnt (K : PySem.W.Frag) {x y z : V} {H : Hp} {Q : VK} {E : XK} (h : F_Llearnt K x y z H Q E) : t_Llearnt K E ⟨fun _ H' => Q .non H', Q, fun _ _ => False, fun _ _ => False⟩ [some x, some y, some z, none, none, none, none, none, none, none, none, none] H := by
  refine Bx.out ?_
  simp (disch := with_unfolding_all
  obtain ⟨p, r, ws, cs, m, t, rfl, rfl, rfl, ht, hp, hr, w, c, q⟩ := h
  obtain ⟨pl, pp⟩ := parts_ok t w c
  have sm := w.sum
  have m1 := w.m1
  have m6 := w.m6
  have wl := w.len
  have cl := c.len
  have ple := parts_le t w.pos c.all
  unfold t_Llearnt
  walk_at "go"
  rw [List.length_map]
  intro l nl
  have npl : p ≠ l := ne_of_none hp nl
  have nrl : r ≠ l := ne_of_none hr nl
  walk_at "go"
  refine for_R1 (k := ws.length) rfl (by omega) (fun i σ H1 => ∃ v u, σ = [some (.ref p), some (.ref r), some (.int t), some (.int (ws.length : Int)), some (.ref l), v, u, none, none, none, none, none] ∧ Same H H1 ∧ H1 l = some (.lst ((partsS (ws.take i) (cs.take i) t).map V.int))) ?_ ?_ ?_
  · exact ⟨_, _, rfl, same_new (Same.refl _) nl, upd_same⟩
  · rintro i σ H1 hi ⟨v, u, rfl, s, el⟩
    have hz : ws[i]? = some ws[i] := List.getElem?_eq_getElem hi
    have hd : cs[i]? = some (cs[i]'(by omega)) := List.getElem?_eq_getElem (by omega)
    generalize ws[i] = z at hz
    generalize cs[i]'(by omega) = d at hd
    obtain ⟨d1, d2⟩ := c.all d (List.mem_of_getElem? hd)
    have hp1 := s _ _ hp
    have hr1 := s _ _ hr
    have pk : (partsS (ws.take i) (cs.take i) t).length ≤ 6 := by unfold partsS; rw [List.length_zipWith, List.length_take]; omega
    have e1 : partsS (ws.take (i + 1)) (cs.take (i + 1)) t = partsS (ws.take i) (cs.take i) t ++ [z * gave d t] := dot_take _ hz hd
    walk_at "go"
    refine g_ixL (sq_of hr1) (ix_at hd) ?_
    walk_at "go"
    refine dif (fun h => ?_) fun h => ?_
    · walk_at "go"
      refine g_ixL (sq_of hr1) (ix_at hd) ?_
      walk_at "go"
      refine g_ixL (sq_of hp1) (ix_at hz) ?_
      walk_at "go"
      refine ⟨_, _, rfl, same_mut s nl, ?_⟩
      rw [upd_same, e1, List.map_append]
      have : gave d t = 16777216 - d := by unfold gave; rw [if_neg (by omega)]
      rw [this]
      rfl
    · walk_at "go"
      refine g_ixL (sq_of hp1) (ix_at hz) ?_
      walk_at "go"
      refine ⟨_, _, rfl, same_mut s nl, ?_⟩
      rw [upd_same, e1, List.map_append]
      have : gave d t = d := by unfold gave; rw [if_pos (by omega)]
      rw [this]
      rfl
  · rintro σ H1 ⟨v, u, rfl, s, el⟩
    rw [List.take_length, List.take_of_length_le (by omega)] at el
    unfold learnS at q
    generalize partsS ws cs t = ps at pl pp el q ple
    obtain ⟨s1, s2⟩ := sum_ge pp
    have gs := grown_sum ps
    walk_at "go"
    have wpl : (ws.length : Int) = (ps.length : Int) := by omega
    rw [wpl]
    refine lc_LI (ns := ps) (sq_of el) (fun z => .int (31 * (ps.length : Int) * z + ps.sum)) (by omega) (fun z hz D H2 Q2 s2 k => ?_) fun D H2 nD s2 eD => ?_
    · walk_at "go"
      refine g_sum (ns := ps) (sq_of (s2 _ _ el)) ?_
      walk_at "go"
      exact k _ (Same.refl _)
    · have eD : H2 D = some (.lst ((grownS ps).map V.int)) := by rw [eD]; unfold grownS; rw [List.map_map]; rfl
      have gl : (grownS ps).length = m := by unfold grownS; rw [List.length_map, pl]
      have Spos : 0 < (grownS ps).sum := by
        rw [gs, pl]
        exact Int.mul_pos (by omega) (by omega)
      have Sle : (grownS ps).sum < 1000000000000000000000000 := by
        have k : (grownS ps).sum ≤ 192 * ps.sum := by
          rw [gs]
          exact Int.mul_le_mul_of_nonneg_right (by omega) (by omega)
        omega
      obtain ⟨o1, o2, o3⟩ := over_ok Spos
      obtain ⟨o, ho⟩ : ∃ o : Nat, overS (grownS ps).sum = (o : Int) := ⟨(overS (grownS ps).sum).toNat, by omega⟩
      rw [ho, Int.toNat_natCast] at o1 o2
      have p2 : ∀ k : Nat, (0 : Int) < 2 ^ k := fun k => Int.pow_pos (by decide)
      have o40 : (2 : Int) ^ o < 1099511627776 := by
        by_cases z : (o : Int) = 0
        · have : o = 0 := by omega
          rw [this]; decide
        · have := o2 z
          omega
      walk_at "go"
      refine g_sum (ns := grownS ps) (sq_of eD) ?_
      walk_at "go"
      refine g_while (fun n σ H3 => ∃ k : Nat, k + n = o ∧ σ = [some (.ref p), some (.ref r), some (.int t), some (.int (ps.length : Int)), some (.ref l), v, u, some (.ref D), some (.int ((grownS ps).sum / 2 ^ k)), some (.int (2 ^ k)), none, none] ∧ H3 = H2) o ⟨0, by omega, by simp, rfl⟩ ?_
      rintro n σ H3 ⟨k, hk, rfl, rfl⟩
      walk_at "go"
      refine dif (fun h => ?_) fun h => ?_
      · walk_at "go"
        have n0 : n ≠ 0 := fun z => by
          have e : k = o := by omega
          rw [e] at h
          have := Int.ediv_lt_of_lt_mul (p2 o) o1
          omega
        refine ⟨n - 1, by omega, k + 1, by omega, ?_, rfl⟩
        have e1 : (grownS ps).sum / 2 ^ k / 2 = (grownS ps).sum / 2 ^ (k + 1) := by rw [Int.ediv_ediv_of_nonneg (Int.le_of_lt (p2 k)), Int.pow_succ]
        have e2 : (2 : Int) * 2 ^ k = 2 ^ (k + 1) := by rw [Int.pow_succ, Int.mul_comm]
        rw [e1, e2]
      · walk_at "go"
        have e : k = o := by
          rcases Nat.lt_or_ge k o with z | z
          · exfalso
            have b := o2 (by omega)
            have d : (2 : Int) ^ o = 2 ^ (o - k - 1) * 2 * 2 ^ k := by
              rw [← Int.pow_succ, ← Int.pow_add]
              congr 1; omega
            have f : 281474976710656 * 2 ^ k ≤ (grownS ps).sum := by
              refine Int.le_trans ?_ b
              rw [d]
              have := p2 (o - k - 1)
              have g : (140737488355328 : Int) * (2 ^ (o - k - 1) * 2 * 2 ^ k) = (2 ^ (o - k - 1) * 281474976710656) * 2 ^ k := by
                rw [← Int.mul_assoc]
                congr 1
                omega
              rw [g]
              exact Int.mul_le_mul_of_nonneg_right (by omega) (Int.le_of_lt (p2 k))
            exact h (Int.le_ediv_of_mul_le (p2 k) f)
          · omega
        rw [e]
        refine lc_LI (ns := grownS ps) (sq_of eD) (fun z => .int (z / 2 ^ (overS (grownS ps).sum).toNat)) (by omega) (fun z hz D3 H4 Q4 s4 k => ?_) fun D3 H4 nD3 s4 eD3 => ?_
        · walk_at "go"
          refine g_floor (cdw48' (p2 o) o40) ?_
          have : (2 : Int) ^ (overS (grownS ps).sum).toNat = 2 ^ o := by rw [ho, Int.toNat_natCast]
          rw [← this]
          exact k _ (Same.refl _)
        · have S4 : Same H H4 := Same.trans (Same.trans s s2) s4
          refine q D3 H4 ((Same.trans s s2).free nD3) S4 ?_
          rw [eD3]
          unfold cutS
          rw [List.map_map]
          rfl
  ) only [↓Bx.eq]
/-! Fo, a dict whose keys are pairs of an int and a tuple of ints: what the kit's heap objects do not have (HO.ext holds it). -/
abbrev NK := Int × List Int
def nkey (k : NK) : PySem.NestedKey := .tup [.num k.1, .tup (k.2.map .num)]
theorem num_inj : ∀ {a b : List Int}, a.map PySem.NestedKey.num = b.map PySem.NestedKey.num → a = b
  | [], [], _ => rfl
  | [], _ :: _, h => nomatch h
  | _ :: _, [], h => nomatch h
  | x :: a, y :: b, h => by
    rw [List.map_cons, List.map_cons] at h
    injection h with h1 h2
    injection h1 with h1
    rw [h1, num_inj h2]
theorem nkey_inj {a b : NK} (h : nkey a = nkey b) : a = b := by
  have h := PySem.NestedKey.tup.inj h
  injection h with h1 h2
  injection h1 with h1
  injection h2 with h2 _
  have h2 := num_inj (PySem.NestedKey.tup.inj h2)
  exact Prod.ext h1 h2
theorem hashes_num (w w' : World) : ∀ c : List Int, PySem.NestedKey.hashes w (c.map .num) = PySem.NestedKey.hashes w' (c.map .num)
  | [] => by simp [PySem.NestedKey.hashes]
  | i :: c => by
    rw [List.map_cons, PySem.NestedKey.hashes, PySem.NestedKey.hashes, hashes_num w w' c, PySem.NestedKey.hash, PySem.NestedKey.hash]
theorem nkey_hash (w w' : World) (k : NK) : (nkey k).hash w = (nkey k).hash w' := by
  unfold nkey
  rw [PySem.NestedKey.hash, PySem.NestedKey.hash, PySem.NestedKey.hashes, PySem.NestedKey.hashes, PySem.NestedKey.hashes, PySem.NestedKey.hashes, PySem.NestedKey.hashes, PySem.NestedKey.hashes, PySem.NestedKey.hash, PySem.NestedKey.hash, PySem.NestedKey.hash, PySem.NestedKey.hash, hashes_num w w']
theorem depth_num : ∀ c : List Int, PySem.NestedKey.depthAll (c.map .num) = 0
  | [] => by simp [PySem.NestedKey.depthAll]
  | i :: c => by
    rw [List.map_cons, PySem.NestedKey.depthAll, depth_num c, PySem.NestedKey.depth]
    rfl
theorem nkey_depth (k : NK) : (nkey k).depth ≤ 8 := by
  unfold nkey
  simp only [PySem.NestedKey.depth, PySem.NestedKey.depthAll, depth_num]
  decide
/-- an entry: the key, where its tuple stands, where the value stands -/
abbrev NE := NK × Addr × Addr
def nes (xs : List NE) : List (PySem.NestedKey × Addr × Value) := xs.map fun x => (nkey x.1, x.2.1, .ref x.2.2)
def dN (d : Addr) (xs : List NE) : HO := .ext fun h => xs.length ≤ sizeLine ∧ (d == sysModules) = false ∧ ∃ (P : Program) (w : World) (o : Obj) (es : Array DictEntry) (ep : Nat), h.get? d = some o ∧ o.ExactDict ∧ o.data = .dict es ep ∧ es.toList = (nes xs).map (entryOfKey (nestedKind P w)) ∧ ((nes xs).map (·.1)).Nodup
/-- the key's tuple stands -/
def Kp (H : Hp) (b : Addr) (k : NK) : Prop := ∃ c, H b = some (.tup [.int k.1, .ref c]) ∧ H c = some (.tup (k.2.map V.int))
theorem Kp.same {H H1 : Hp} {b : Addr} {k : NK} (h : Kp H b k) (s : Same H H1) : Kp H1 b k := by
  obtain ⟨c, h1, h2⟩ := h
  exact ⟨c, s _ _ h1, s _ _ h2⟩
structure DN (H : Hp) (d : Addr) (xs : List NE) : Prop where
  e : H d = some (dN d xs)
  k : ∀ x ∈ xs, Kp H x.2.1 x.1
theorem DN.same {H H1 : Hp} {d : Addr} {xs : List NE} (h : DN H d xs) (s : Same H H1) : DN H1 d xs := ⟨s _ _ h.e, fun x hx => (h.k x hx).same s⟩
theorem DN.keep {H H1 : Hp} {d : Addr} {xs : List NE} {M : Addr → Prop} (h : DN H d xs) (s : SameX M H H1) (nd : ¬ M d) (nt : ∀ b ys, H b = some (.tup ys) → ¬ M b) : DN H1 d xs := ⟨s.kp _ _ nd h.e, fun x hx => by
  obtain ⟨c, h1, h2⟩ := h.k x hx
  exact ⟨c, s.kp _ _ (nt _ _ h1) h1, s.kp _ _ (nt _ _ h2) h2⟩⟩
def lookN (xs : List NE) (k : NK) : Option Addr := (xs.find? fun x => decide (x.1 = k)).map fun x => x.2.2
theorem atKey_nes (xs : List NE) (k : NK) : (atKey (nes xs) (nkey k)).map (·.2) = (lookN xs k).map Value.ref := by
  induction xs with
  | nil => rfl
  | cons x xs ih =>
    by_cases h : x.1 = k
    · simp [nes, atKey, lookN, h]
    · have h2 : ¬ nkey x.1 = nkey k := fun z => h (nkey_inj z)
      simpa [nes, atKey, lookN, h, h2] using ih
theorem nums_are {h : Heap} : ∀ {c : List Int} {its : List Value}, Vals (c.map V.int) its → PySem.NestedAll h (c.map .num) its
  | [], _, r => by cases r; exact .nil
  | i :: c, _, r => by
    cases r with
    | cons r1 r2 =>
      obtain ⟨t, rfl⟩ := (show ∃ t, _ = Value.int i t from r1)
      exact .cons (.int i t) (nums_are r2)
section
variable {P : Program} {w : World} {H : Hp} {h : Heap} {d b : Addr} {xs : List NE} {k : NK}
theorem nkey_of (ok : HOk P w H h) (e : Kp H b k) : (nestedKind P w).is h (nkey k) b := by
  obtain ⟨c, e1, e2⟩ := e
  obtain ⟨_, its, r, o, h1, h2, n, h3⟩ := (show ObjOk P w H h b (.tup [.int k.1, .ref c]) from ok b _ e1)
  obtain ⟨_, its2, r2, o2, g1, g2, n2, g3⟩ := (show ObjOk P w H h c (.tup (k.2.map V.int)) from ok c _ e2)
  refine ⟨.tup h1 h2 h3 ?_, nkey_depth k⟩
  cases r with
  | cons r3 r4 =>
    cases r4 with
    | cons r5 r6 =>
      cases r6
      obtain ⟨t, rfl⟩ := (show ∃ t, _ = Value.int k.1 t from r3)
      obtain rfl := (show _ = Value.ref c from r5)
      exact .cons (.int _ t) (.cons (.tup g1 g2 g3 (by simpa using nums_are r2)) .nil)
theorem dn_of (ok : HOk P w H h) (D : DN H d xs) : xs.length ≤ sizeLine ∧ (d == sysModules) = false ∧ h.DictOfH (nestedKind P w) d (nes xs) := by
  obtain ⟨⟨l, hd, P2, w2, o, es, ep, h1, h2, h3, h4, h5⟩, _, _⟩ := (show ObjOk P w H h d (dN d xs) from ok d _ D.e)
  refine ⟨l, hd, o, es, ep, h1, h2, h3, ?_, fun x hx => ?_, h5⟩
  · rw [h4]
    refine List.map_congr_left fun x hx => ?_
    obtain ⟨y, _, rfl⟩ := List.mem_map.mp hx
    show (⟨(nkey y.1).hash w2, .ref y.2.1, .ref y.2.2⟩ : DictEntry) = ⟨(nkey y.1).hash w, .ref y.2.1, .ref y.2.2⟩
    rw [nkey_hash w2 w]
  · obtain ⟨y, hy, rfl⟩ := List.mem_map.mp hx
    exact nkey_of ok (D.k y hy)
theorem dn_ok {H' : Hp} (l : xs.length ≤ sizeLine) (hd : (d == sysModules) = false) (m : h.DictOfH (nestedKind P w) d (nes xs)) : ObjOk P w H' h d (dN d xs) := by
  obtain ⟨o, es, ep, h1, h2, h3, h4, _, h5⟩ := m
  refine ⟨⟨l, hd, P, w, o, es, ep, h1, h2, h3, h4, h5⟩, ⟨o, h1⟩, fun a1 a2 => ?_⟩
  rintro ⟨l, hd, P2, w2, o, es, ep, h1, r⟩ s
  exact ⟨l, hd, P2, w2, o, es, ep, s o h1, r⟩
end
/-! ### readings and rules -/
def tDNewN : TE := fun _ H Q => ∀ p, H p = none → Q (.ref p) (upd H p (dN p []))
def tDNotInZ (ty td : TE) : TE := fun σ H Q => ty σ H fun y H1 => td σ H1 fun x H2 => ∃ a b xs k, x = .ref a ∧ y = .ref b ∧ DN H2 a xs ∧ Kp H2 b k ∧ Q (.bl (!(lookN xs k).isSome)) H2
def tDGetZ (td ty : TE) : TE := fun σ H Q => td σ H fun x H1 => ty σ H1 fun y H2 => ∃ a b xs k s, x = .ref a ∧ y = .ref b ∧ DN H2 a xs ∧ Kp H2 b k ∧ lookN xs k = some s ∧ Q (.ref s) H2
/-- a new key is put down -/
def sDPutZ (td ty tv : TE) : TS := fun D σ H => tv σ H fun v H1 => td σ H1 fun x H2 => ty σ H2 fun y H3 => ∃ a b xs k s, x = .ref a ∧ y = .ref b ∧ v = .ref s ∧ DN H3 a xs ∧ Kp H3 b k ∧ lookN xs k = none ∧ xs.length < sizeLine ∧ D.nx σ (upd H3 a (dN a (xs ++ [(k, b, s)])))
section
variable {X : Cx} {o i value : Expr} {pos pos' : Pos} {td ty tv : TE}
theorem pe_dnewN : PE X (.Dict [] [] pos) tDNewN := ⟨fun pins s σ H Q I h =>
  wpAny_Dict_empty ⟨.ref s.heap.objs.size, _, I.laid (a := s.heap.objs.size) (o := dN s.heap.objs.size []) (t' := s.toks) (fun _ _ q => Heap.get?_push_of_some _ q) (Nat.le_refl _) (dn_ok (P := X.prog) (w := X.w) (Nat.zero_le _) (beq_eq_false_iff_ne.mpr (Ne.symm (Nat.ne_of_lt I.big))) (Heap.DictOfH.new s.heap)), rfl, h _ (I.hok.fresh (Nat.le_refl _))⟩⟩
theorem nest_room {A : Around} (hu : A.units + 64 < cLine) {P : Program} {w : World} : (nestedKind P w).room A.in1 := by
  show A.units + 1 + 8 < cLine
  omega
theorem pc_dnotinZ (hu : X.A.units + 64 < cLine) (hi : PE X i ty) (ho : PE X o td) : PC X .NotIn i o (tDNotInZ ty td) := by
  refine ⟨fun pins s σ H Q I h => ?_⟩
  refine thn (hi.run pins s σ H _ I h) fun iv s1 ⟨y, H1, I1, ry, q1⟩ => thn (ho.run pins s1 σ H1 _ I1 q1) fun u s2 ⟨x, H2, I2, rx, a, b, xs, k, ex, ey, D, hk, q2⟩ => ?_
  subst ex ey
  obtain rfl : u = Value.ref a := rx
  obtain rfl : iv = Value.ref b := ry
  obtain ⟨_, hd, m⟩ := dn_of I2.hok D
  refine wpAny_notIn_heap (nest_room hu) (nkey_of I2.hok hk) hd m ?_
  have e : (atKey (nes xs) (nkey k)).isSome = (lookN xs k).isSome := by
    have := congrArg Option.isSome (atKey_nes xs k)
    rwa [Option.isSome_map, Option.isSome_map] at this
  rw [e]
  exact ⟨.bl _, H2, I2.tok _, rfl, q2⟩
theorem dn_typeIs {pins : List (Addr × Obj)} {σ : St} {H : Hp} {s : Shared} {a : Addr} {xs : List NE} (I : Inv X pins σ H s) (D : DN H a xs) : s.TypeIs (.ref a) "dict" := (dn_of I.hok D).2.2.typeIs
theorem pe_dgetZ (hu : X.A.units + 64 < cLine) (ho : PE X o td) (hi : PE X i ty) (hs : NoSl i) : PE X (.Subscript o i pos) (tDGetZ td ty) := by
  refine ⟨fun pins s σ H Q I h => ?_⟩
  refine subD_of PySem.F.slot_dict_getitem.lookup hs (thn (ho.run pins s σ H _ I h) fun u s1 ⟨x, H1, I1, rx, q1⟩ => thn (hi.run pins s1 σ H1 _ I1 q1) fun iv s2 ⟨y, H2, I2, ry, a, b, xs, k, sl, ex, ey, D, hk, hl, q2⟩ => ?_)
  subst ex ey
  obtain rfl : u = Value.ref a := rx
  obtain rfl : iv = Value.ref b := ry
  obtain ⟨_, hd, m⟩ := dn_of I2.hok D
  refine ⟨dn_typeIs I2 D, ?_⟩
  have e := atKey_nes xs k
  rw [hl] at e
  obtain ⟨p, hp, hp2⟩ := Option.map_eq_some_iff.mp e
  refine wpAny_getItem_heap (nest_room hu) (nkey_of I2.hok hk) m hp ?_
  rw [hp2]
  exact ⟨.ref sl, H2, I2.tok _, rfl, q2⟩
theorem ps_dputZ (hu : X.A.units + 64 < cLine) (ho : PE X o td) (hi : PE X i ty) (hv : PE X value tv) (hs : swapsWith value (some (.Subscript o i pos')) pos.line X.env = pure false) :
    PS X (.Assign [.Subscript o i pos'] value pos) (sDPutZ td ty tv) := by
  refine ⟨fun pins s σ H D I h => ?_⟩
  refine wpAny_Assign_Subscript (thn (hv.run pins s σ H _ I h) fun r s1 ⟨v, H1, I1, rv, q1⟩ => thn (ho.run pins s1 σ H1 _ I1 q1) fun u s2 ⟨x, H2, I2, rx, q2⟩ => thn (hi.run pins s2 σ H2 _ I2 q2) fun iv s3 ⟨y, H3, I3, ry, a, b, xs, k, sl, ex, ey, ev, Dn, hk, hl, hz, q3⟩ => ?_) hs
  subst ex ey ev
  obtain rfl : u = Value.ref a := rx
  obtain rfl : iv = Value.ref b := ry
  obtain rfl : r = Value.ref sl := rv
  obtain ⟨l, hd, m⟩ := dn_of I3.hok Dn
  have hn : atKey (nes xs) (nkey k) = none := by
    have e := atKey_nes xs k
    rw [hl] at e
    exact Option.map_eq_none_iff.mp e
  refine wpAny_setItem_heap (hsz := by unfold nes; rw [List.length_map]; exact l) (nest_room hu) (nkey_of I3.hok hk) m fun h' dd' hs => ?_
  rw [storedH_new hn] at dd'
  have e2 : nes xs ++ [(nkey k, b, Value.ref sl)] = nes (xs ++ [(k, b, sl)]) := by
    unfold nes
    rw [List.map_append]
    rfl
  rw [e2] at dd'
  have he : ∃ q, h'.get? a = some q := let ⟨q, _, _, hq, _⟩ := dd'; ⟨q, hq⟩
  exact ⟨σ, _, d_write I3 (by rw [Dn.e]; exact True.intro) hs he (dn_ok (by rw [List.length_append]; exact hz) hd dd'), q3⟩
end
section
variable {σ : St} {H : Hp} {Q : VK} {n : St → Hp → Prop} {rt : VK} {bk ct : St → Hp → Prop} {td ty tv : TE}
theorem g_dnewN (q : ∀ p, H p = none → Q (.ref p) (upd H p (dN p []))) : tDNewN σ H Q := q
theorem g_dnotinZ (q : ty σ H fun y H1 => td σ H1 fun x H2 => ∃ a b xs k, x = .ref a ∧ y = .ref b ∧ DN H2 a xs ∧ Kp H2 b k ∧ Q (.bl (!(lookN xs k).isSome)) H2) : tDNotInZ ty td σ H Q := q
theorem g_dgetZ (q : td σ H fun x H1 => ty σ H1 fun y H2 => ∃ a b xs k s, x = .ref a ∧ y = .ref b ∧ DN H2 a xs ∧ Kp H2 b k ∧ lookN xs k = some s ∧ Q (.ref s) H2) : tDGetZ td ty σ H Q := q
theorem g_dputZ (q : tv σ H fun v H1 => td σ H1 fun x H2 => ty σ H2 fun y H3 => ∃ a b xs k s, x = .ref a ∧ y = .ref b ∧ v = .ref s ∧ DN H3 a xs ∧ Kp H3 b k ∧ lookN xs k = none ∧ xs.length < sizeLine ∧ n σ (upd H3 a (dN a (xs ++ [(k, b, s)])))) : sDPutZ td ty tv ⟨n, rt, bk, ct⟩ σ H := q
end
/-! Fo, texts made: str(i) -/
def rStrOf : List V → Hp → VK → Prop := fun xs H Q => ∃ i : Int, xs = [.int i] ∧ i.natAbs.log2 < 1920 ∧ Q (.str (toString i)) H
theorem c_str {X : Cx} : CallR X (.type "str") rStrOf := call_str_int
theorem g_strI {i : Int} {H : Hp} {Q : VK} (h : i.natAbs < 2 ^ 1000) (q : Q (.str (toString i)) H) : rStrOf [.int i] H Q := ⟨i, rfl, by
  by_cases z : i.natAbs = 0
  · rw [z]; decide
  · exact Nat.lt_of_lt_of_le ((Nat.log2_lt z).mpr h) (by decide), q⟩
/-! ### tuples, data that is the same -/
theorem g_sameR {K : PySem.W.Frag} {H : Hp} {Q : VK} {x y : V} {d : PyData} (hx : Dp K H x d) (hy : Dp K H y d) (l : d.canLay0 = true) (n : d.depth ≤ 64) (q : Q (.bl true) H) : rSame K x y H Q := by
  have sh : SeqAt.shaped d = true := by
    unfold SeqAt.shaped
    rw [l, Bool.true_and]
    exact decide_eq_true n
  refine .inr ⟨d, d, hx, hy, sh, sh, ?_⟩
  rw [SeqAt.eqv_refl d l]
  exact q
theorem g_diffR {K : PySem.W.Frag} {H : Hp} {Q : VK} {x y : V} {d : PyData} (hx : Dp K H x d) (hy : Dp K H y d) (l : d.canLay0 = true) (n : d.depth ≤ 64) (q : Q (.bl false) H) : rDiff K x y H Q := by
  have sh : SeqAt.shaped d = true := by
    unfold SeqAt.shaped
    rw [l, Bool.true_and]
    exact decide_eq_true n
  refine .inr ⟨d, d, hx, hy, sh, sh, ?_⟩
  rw [SeqAt.eqv_refl d l]
  exact q
theorem g_sameK {K : PySem.W.Frag} {H : Hp} {Q : VK} {x y : V} {d : PyData} {n : Nat} (hx : Dp K H x d) (hy : Dp K H y d) (o : Okd n d) (hn : n ≤ 64) (q : Q (.bl true) H) : rSame K x y H Q := g_sameR hx hy o.lay (Nat.le_trans o.dp hn) q
theorem g_diffK {K : PySem.W.Frag} {H : Hp} {Q : VK} {x y : V} {d : PyData} {n : Nat} (hx : Dp K H x d) (hy : Dp K H y d) (o : Okd n d) (hn : n ≤ 64) (q : Q (.bl false) H) : rDiff K x y H Q := g_diffR hx hy o.lay (Nat.le_trans o.dp hn) q
theorem ty_non {K : PySem.W.Frag} {H : Hp} : TyW K H .non := .inr (.inr ⟨rfl, "NoneType", .base .non, by decide +kernel⟩)
theorem ty_str {K : PySem.W.Frag} {H : Hp} {z : Str} : TyW K H (.str z) := .inr (.inr ⟨rfl, "str", .base (.str _), by decide +kernel⟩)
theorem ty_bl {K : PySem.W.Frag} {H : Hp} {b : Bool} : TyW K H (.bl b) := .inr (.inl ⟨b, rfl⟩)
theorem ty_lst {K : PySem.W.Frag} {H : Hp} {a : Addr} {xs : List V} (h : H a = some (.lst xs)) : TyW K H (.ref a) := .inr (.inr ⟨rfl, "list", .base (.lst h), by decide +kernel⟩)
theorem ty_tup {K : PySem.W.Frag} {H : Hp} {a : Addr} {xs : List V} (h : H a = some (.tup xs)) : TyW K H (.ref a) := .inr (.inr ⟨rfl, "tuple", .base (.tup h), by decide +kernel⟩)
theorem g_on5 {F : V → V → V → V → V → Hp → VK → XK → Prop} {a b c d e : V} {H : Hp} {Q : VK} {E : XK} (q : F a b c d e H Q E) : on5 F ([a, b, c, d, e] ++ []) H Q E := ⟨a, b, c, d, e, rfl, q⟩

/-- xs.insert(n, y) -/
def rInsert : V → List V → Hp → VK → Prop := fun x vs H Q => ∃ l xs, ∃ (n : Nat) (y : V), x = .ref l ∧ vs = [.int n, y] ∧ H l = some (.lst xs) ∧ xs.length ≤ 100000 ∧ n ≤ 100000 ∧ Q .non (upd H l (.lst (xs.take n ++ [y] ++ xs.drop n)))
theorem m_insert {X : Cx} : MtR X "list.insert" rInsert := fun pins s σ H x xs v us Q I rx rs q => by
  obtain ⟨l, ys, n, y, rfl, rfl, h, h1, h2, q⟩ := q
  exact mt_insert pins s σ H _ _ v us Q I rx rs ⟨l, ys, n, y, rfl, rfl, h, Nat.lt_of_le_of_lt h1 (by decide), by omega, Int.lt_of_le_of_lt (b := 100000) (by omega) (by decide), q⟩
theorem g_insert {l : Addr} {xs : List V} {n : Nat} {y : V} {H : Hp} {Q : VK} (h : H l = some (.lst xs)) (h1 : xs.length ≤ 100000) (h2 : n ≤ 100000) (q : Q .non (upd H l (.lst (xs.take n ++ [y] ++ xs.drop n)))) : rInsert (.ref l) [.int n, y] H Q := ⟨l, xs, n, y, rfl, rfl, h, h1, h2, q⟩
/-! Fo, texts by their lists of signs -/
def Cs (l : List Nat) : Str := ⟨l.toArray⟩
theorem Cs_eta (z : Str) : Cs z.cps.toList = z := by
  cases z
  rfl
theorem Cs_len (l : List Nat) : (Cs l).length = l.length := List.size_toArray
theorem Cs_app (a b : List Nat) : Cs a ++ Cs b = Cs (a ++ b) := by
  show (⟨a.toArray ++ b.toArray⟩ : Str) = ⟨(a ++ b).toArray⟩
  simp
theorem Cs_inj {a b : List Nat} (h : Cs a = Cs b) : a = b := by
  have := congrArg (fun z : Str => z.cps.toList) h
  exact this
theorem Cs_cut (l : List Nat) (lo hi : Option Int) : L2.cutS (Cs l) lo hi = Cs (cutL l lo hi) := by
  unfold L2.cutS cutL
  rw [Cs_len]
  rfl
section
variable {K : PySem.W.Frag} {H : Hp} {Q : VK} {a b l : List Nat} {i : Int} {c : Nat} {lo hi : Option Int}
theorem g_plusC (hl : a.length + b.length ≤ sizeLine) (q : Q (.str (Cs (a ++ b))) H) : rPlus K (.str (Cs a)) (.str (Cs b)) H Q :=
  g_plusS (by rw [Cs_len, Cs_len]; exact hl) (by rw [Cs_app]; exact q)
theorem g_slC (hl : l.length ≤ sizeLine) (q : Q (.str (Cs (cutL l lo hi))) H) : rSlS (.str (Cs l)) lo hi H Q := ⟨Cs l, rfl, by rw [Cs_len]; exact hl, by rw [Cs_cut]; exact q⟩
theorem g_ixC (hl : l.length ≤ sizeLine) (h : atI l i = some c) (q : Q (.str (Cs [c])) H) : rIx K (.str (Cs l)) (.int i) H Q := g_ixS (by rw [Cs_len]; exact hl) h q
theorem g_lenC (hl : l.length ≤ sizeLine) (q : Q (.int (l.length : Int)) H) : rLength K [.str (Cs l)] H Q := g_lenS (by rw [Cs_len]; exact hl) (by rw [Cs_len]; exact q)
end
/-- a text so many times -/
def rMulS : R2 := fun x y H Q => ∃ (z : Str) (k : Nat), x = .str z ∧ y = .int k ∧ z.length * k ≤ 100000 ∧ k ≤ 100000 ∧ Q (.str (Cs (List.replicate k z.cps.toList).flatten)) H
theorem op_mulS {X : Cx} : OpR X (binaryOp .Mult) rMulS := by
  intro pins s σ H x y v u Q I rx ry h
  obtain ⟨z, k, rfl, rfl, hz, hk, q⟩ := h
  obtain ⟨t, rfl⟩ := rx
  obtain ⟨t', rfl⟩ := ry
  have key : ∀ z' : Str, z' = Cs (List.replicate k z.cps.toList).flatten → ∀ t tk, EP X pins σ Q (.str z' t) { s with toks := tk } := fun z' e t tk => by
    subst e
    exact ⟨.str _, H, I.tok _, ⟨_, rfl⟩, q⟩
  have fl : ∀ m : Nat, ((List.replicate m z.cps).foldl (· ++ ·) #[]) = ((List.replicate m z.cps.toList).flatten).toArray := fun m => by
    have g : ∀ (m : Nat) (acc : List Nat), (List.replicate m z.cps).foldl (· ++ ·) acc.toArray = (acc ++ (List.replicate m z.cps.toList).flatten).toArray := by
      intro m
      induction m with
      | zero => intro acc; simp
      | succ m ih =>
        intro acc
        rw [List.replicate_succ, List.foldl_cons, List.replicate_succ, List.flatten_cons]
        have e : acc.toArray ++ z.cps = (acc ++ z.cps.toList).toArray := by
          apply Array.ext'
          simp
        rw [e, ih, List.append_assoc]
    have := g m []
    simpa using this
  have sz : sizeLine = 16777216 := PySem.sizeLine_eq
  have hp : ∀ z' : Str, z' = Cs (List.replicate k z.cps.toList).flatten → z'.length ≤ sizeLine := fun z' e => by
    subst e
    rw [Cs_len, List.length_flatten, List.map_replicate, List.sum_replicate_nat, sz, Array.length_toList]
    show k * z.length ≤ _
    rw [Nat.mul_comm]
    omega
  refine P.mul_str ?_ ?_ ?_ ?_
  · rw [decide_eq_false (by omega), decide_eq_false (by omega)]; rfl
  · intro h1 h2 h3
    have k1 : (1 : Int) ≤ (k : Int) := by omega
    have d1 : (2 ^ 63 - 1 : Int) / (k : Int) * (k : Int) + (2 ^ 63 - 1 : Int) % (k : Int) = 2 ^ 63 - 1 := Int.ediv_mul_add_emod ..
    have d2 := Int.emod_lt_of_pos (2 ^ 63 - 1 : Int) (show (0 : Int) < k by omega)
    have z1 : ((2 ^ 63 - 1 : Int) / (k : Int) + 1) * (k : Int) ≤ (z.length : Int) * (k : Int) := Int.mul_le_mul_of_nonneg_right (by omega) (by omega)
    have z2 : ((z.length : Int) * (k : Int)) = ((z.length * k : Nat) : Int) := by rw [Int.natCast_mul]
    rw [Int.add_mul] at z1
    omega
  · intro _ _
    rw [Int.toNat_natCast]
    unfold Builtin.Str.tooLong
    rw [sz]
    exact decide_eq_false (by omega)
  · by_cases h1 : (k : Int) < 1
    · rw [if_pos h1]
      have k0 : k = 0 := by omega
      have e : Str.empty = Cs (List.replicate k z.cps.toList).flatten := by rw [k0]; rfl
      exact ⟨by rw [e]; exact hp _ rfl, key _ e _ _⟩
    · rw [if_neg h1]
      by_cases h2 : ((k : Int) == 1 || z.length == 0) = true
      · rw [if_pos h2]
        rw [Bool.or_eq_true, beq_iff_eq, beq_iff_eq] at h2
        have e : z = Cs (List.replicate k z.cps.toList).flatten := by
          rcases h2 with h2 | h2
          · have : k = 1 := by omega
            rw [this]
            simp [Cs_eta]
          · have z0 : z.cps.toList = [] := List.length_eq_zero_iff.mp (by rw [Array.length_toList]; exact h2)
            rw [z0, List.flatten_replicate_nil]
            rw [← z0, Cs_eta]
        exact ⟨.str _, H, I, ⟨t, by rw [← e]⟩, q⟩
      · rw [if_neg h2, Int.toNat_natCast]
        have e : (⟨(List.replicate k z.cps).foldl (· ++ ·) #[]⟩ : Str) = Cs (List.replicate k z.cps.toList).flatten := by rw [fl k]; rfl
        exact ⟨hp _ e, key _ e _ _⟩
def rTimes2 : R2 := fun x y H Q => rTimes x y H Q ∨ rMulS x y H Q
theorem o_timesS {X : Cx} : OpR X (binaryOp .Mult) rMulS := op_mulS
theorem g_mulC {H : Hp} {Q : VK} {l : List Nat} {k : Nat} (hl : l.length * k ≤ 100000) (hk : k ≤ 100000) (q : Q (.str (Cs (List.replicate k l).flatten)) H) : rMulS (.str (Cs l)) (.int k) H Q := ⟨Cs l, k, rfl, rfl, by rw [Cs_len]; exact hl, hk, q⟩
/-! ### the small letters -/
def abc : List Nat := (List.range 26).map (97 + ·)
theorem abc_is : ("abcdefghijklmnopqrstuvwxyz" : Str) = Cs abc := by decide +kernel
theorem nil_is : ("" : Str) = Cs [] := by decide +kernel
theorem abc_at {k : Nat} (h : k < 26) : atI abc (k : Int) = some (97 + k) := by
  have : abc[k]? = some (97 + k) := by unfold abc; rw [List.getElem?_map, List.getElem?_range h]; rfl
  unfold atI
  rw [show ixN abc.length (k : Int) = some k from ixN_nat (by rw [show abc.length = 26 from rfl]; exact h)]
  exact this
/-! Fo, slices with a step -/
def pickL {α : Type} (xs : List α) (lo hi : Option Int) (c : Int) : List α := (sliceRange (sliceBounds lo hi (some c) xs.length).1 (sliceBounds lo hi (some c) xs.length).2.1 c).filterMap fun i => xs[i]?
theorem pickL_map {α β : Type} (f : α → β) (xs : List α) (lo hi : Option Int) (c : Int) : pickL (xs.map f) lo hi c = (pickL xs lo hi c).map f := by
  unfold pickL
  rw [List.length_map, List.map_filterMap]
  congr 1
  funext i
  rw [List.getElem?_map]
theorem pickL_sub {α : Type} {xs : List α} {lo hi : Option Int} {c : Int} {x : α} (h : x ∈ pickL xs lo hi c) : x ∈ xs := by
  obtain ⟨i, _, e⟩ := List.mem_filterMap.mp h
  exact List.mem_of_getElem? e
theorem pickL_len {α : Type} (xs : List α) (lo hi : Option Int) (c : Int) : (pickL xs lo hi c).length ≤ xs.length := by
  unfold pickL
  refine Nat.le_trans (List.length_filterMap_le ..) (sliceRange_length_le _ _ _ _ (fun h => ?_) fun h => ?_)
  · unfold sliceBounds
    rw [show (some c).getD 1 = c from rfl]
    cases lo <;> cases hi <;> simp only [if_pos h] <;> omega
  · unfold sliceBounds
    rw [show (some c).getD 1 = c from rfl]
    cases lo <;> cases hi <;> simp only [if_neg h] <;> omega
theorem vals_pick {us : List Value} {xs : List V} (r : Vals xs us) : ∀ is : List Nat, Vals (is.filterMap fun i => xs[i]?) (is.filterMap fun i => us.toArray[i]?)
  | [] => .nil
  | i :: is => by
    have ih := vals_pick r is
    cases e : xs[i]? with
    | none =>
      have e2 := r.none_of e
      rw [List.filterMap_cons, List.filterMap_cons, e]
      simp only [List.getElem?_toArray, e2]
      simpa using ih
    | some x =>
      obtain ⟨u, hu, ru⟩ := r.get e
      rw [List.filterMap_cons, List.filterMap_cons, e]
      simp only [List.getElem?_toArray, hu]
      exact .cons ru (by simpa using ih)
def tSlS (K : PySem.W.Frag) (te : TE) (tl th ts : TO) : TE := fun σ H Q => te σ H fun x H1 => tl σ H1 fun l H2 => th σ H2 fun u H3 => ts σ H3 fun o H4 => ∃ (c : Int) (a : Addr) (xs : List V), o = some c ∧ c ≠ 0 ∧ x = .ref a ∧ SqL K H4 a xs ∧ ∀ p, H4 p = none → Q (.ref p) (upd H4 p (.lst (pickL xs l u c)))
section
variable {X : Cx} {e est : Expr} {lo hi : Option Expr} {te : TE} {tl th ts : TO} {p2 pos : Pos}
theorem pe_slS (he : PE X e te) (hl : PO X lo tl) (hu : PO X hi th) (hst : PO X (some est) ts) (tail : ∀ a b : Addr, subscripted (.Slice lo hi (some est) p2) false (.ref a) (.ref b) = operate [.ref a, .ref b] (getItem (.ref a) (.ref b)) := by intro _ _; with_unfolding_all rfl) : PE X (.Subscript e (.Slice lo hi (some est) p2) pos) (tSlS X.K te tl th ts) := by
  constructor
  intro pins s σ H Q I h
  refine Subscript_ (thn (he.run pins s σ H _ I h) fun v s1 ⟨x, H1, I1, r1, q1⟩ => ?_)
  refine wpAny_Slice (thn (hl.run pins s1 σ H1 _ I1 q1) fun vl s2 ⟨l, H2, I2, pl, q2⟩ => ?_)
  refine thn (hu.run pins s2 σ H2 _ I2 q2) fun vu s3 ⟨u, H3, I3, pu, q3⟩ => ?_
  refine thn (hst.run pins s3 σ H3 _ I3 q3) fun vs s4 ⟨o, H4, I4, ps, c, a, xs, eo, hc, ex, hx, q⟩ => ?_
  subst eo ex
  cases r1
  have up : ∀ b ob, s4.heap.get? b = some ob → (s4.heap.push { cls := .type "slice", data := .fields #[vl, vu, vs] }).get? b = some ob := fun b ob z => Heap.get?_push_of_some _ z
  have I5 : Inv X pins σ H4 { s4 with heap := s4.heap.push { cls := .type "slice", data := .fields #[vl, vu, vs] } } := I4.kept (t' := s4.toks) up
  obtain ⟨its, r, ht, hz⟩ := I5.list hx
  have hlen : its.toArray.size = xs.length := by rw [List.size_toArray]; exact r.length.symm
  show wpAny (model X.prog X.w) X.A (subscriptTail e (.Slice lo hi (some est) p2) (.ref a) (.ref s4.heap.objs.size)) _ X.xe _
  refine tail_any (ops := [.ref a, .ref s4.heap.objs.size]) ht.isList.typeIs (PySem.slot_list_getitem.lookup) ?_ (tail _ _)
  refine wpAny_getItem_list_slice ht.isList (Heap.IsSliceOf.new _ vl vu vs) pl pu ps (fun z => hc (Option.some.inj z)) ?_ (by rw [hlen]; exact hz)
  refine ⟨.ref _, _, I5.laid (t' := s4.toks) (o := .lst (pickL xs l u c)) (fun b ob z => Heap.get?_push_of_some _ z) (Nat.le_refl _) ?_, rfl, q _ (I5.hok.fresh (Nat.le_refl _))⟩
  have e1 : slicePick its.toArray l u (some c) = (((sliceRange (sliceBounds l u (some c) xs.length).1 (sliceBounds l u (some c) xs.length).2.1 c).filterMap fun i => its.toArray[i]?)).toArray := by
    unfold slicePick
    rw [hlen]
    rfl
  exact ⟨Nat.le_trans (pickL_len ..) hz, _, 0, vals_pick r _, by rw [e1]; exact Heap.get?_push_size _ rfl⟩
end
section
variable {K : PySem.W.Frag} {σ : St} {H : Hp} {Q : VK} {te : TE} {tl th ts : TO}
theorem g_slS (q : te σ H fun x H1 => tl σ H1 fun l H2 => th σ H2 fun u H3 => ts σ H3 fun o H4 => ∃ (c : Int) (a : Addr) (xs : List V), o = some c ∧ c ≠ 0 ∧ x = .ref a ∧ SqL K H4 a xs ∧ ∀ p, H4 p = none → Q (.ref p) (upd H4 p (.lst (pickL xs l u c)))) : tSlS K te tl th ts σ H Q := q
theorem sl_pick {l u : Option Int} {c : Int} {a : Addr} {xs : List V} (hc : c ≠ 0) (hx : SqL K H a xs) (q : ∀ p, H p = none → Q (.ref p) (upd H p (.lst (pickL xs l u c)))) : ∃ (c' : Int) (a' : Addr) (xs : List V), some c = some c' ∧ c' ≠ 0 ∧ V.ref a = .ref a' ∧ SqL K H a' xs ∧ ∀ p, H p = none → Q (.ref p) (upd H p (.lst (pickL xs l u c'))) := ⟨c, a, xs, rfl, hc, rfl, hx, q⟩
end
/-! k25: the law's own slots, kept by contexts -/
theorem ctx_ix25 {ns : List Int} {z : Int} (h1 : 1 ≤ z) (h8 : z ≤ 8) : atI ((List.replicate 8 256 ++ ns).map V.int) (((8 + ns.length : Nat) : Int) - z) = some (.int (ctxAt ns z)) := by
  obtain ⟨k, hk⟩ : ∃ k : Nat, z = (k : Int) := ⟨z.toNat, by omega⟩
  subst hk
  rw [show (((8 + ns.length : Nat) : Int) - (k : Int)) = ((8 + ns.length - k : Nat) : Int) by omega]
  refine atI_nat ?_
  rw [List.getElem?_map]
  unfold ctxAt
  by_cases c : (k : Int) ≤ (ns.length : Int)
  · rw [if_pos c, List.getElem?_append_right (by rw [List.length_replicate]; omega), List.length_replicate, Int.toNat_natCast, show 8 + ns.length - k - 8 = ns.length - k by omega, List.getElem?_eq_getElem (by omega), List.getD_eq_getElem?_getD, List.getElem?_eq_getElem (by omega)]
    rfl
  · rw [if_neg c, List.getElem?_append_left (by rw [List.length_replicate]; omega), List.getElem?_replicate, if_pos (by omega)]
    rfl
theorem lookN_snoc {xs : List NE} {k : NK} {b s : Addr} (h : lookN xs k = none) (e : NK) : lookN (xs ++ [(k, b, s)]) e = if e = k then some s else lookN xs e := by
  unfold lookN at h ⊢
  have h := Option.map_eq_none_iff.mp h
  rw [List.find?_append]
  by_cases c : e = k
  · subst c
    rw [if_pos rfl, h]
    simp
  · rw [if_neg c]
    cases hf : xs.find? (fun x => decide (x.1 = e)) with
    | some x => rfl
    | none =>
      have : ¬ k = e := fun z => c z.symm
      simp [this]
/-- the dict of slots stands: what it holds is g, behind what is not there stands a new slot -/
structure SR (K : PySem.W.Frag) (H : Hp) (d : Addr) (xs : List NE) (ks : List Lk) (g : Nat → BkF) (n : Nat) : Prop where
  dn : DN H d xs
  le : xs.length ≤ n
  non : ∀ (i : Nat) k c, ks[i]? = some k → lookN xs ((i : Int), c) = none → g i c = new0 k.1
  som : ∀ (i : Nat) k c s, ks[i]? = some k → lookN xs ((i : Int), c) = some s → ∃ dx, H s = some (slO K dx (g i c))
  uni : ∀ e e' s, lookN xs e = some s → lookN xs e' = some s → e = e'
  all : ∀ e s, lookN xs e = some s → ∃ dx t, H s = some (slO K dx t)
section
variable {K : PySem.W.Frag} {H H1 : Hp} {d : Addr} {xs : List NE} {ks : List Lk} {g : Nat → BkF} {n : Nat}
theorem SR.keep {M : Addr → Prop} (h : SR K H d xs ks g n) (s : SameX M H H1) (nd : ¬ M d) (nx : ∀ e s, lookN xs e = some s → ¬ M s) (nt : ∀ b ys, H b = some (.tup ys) → ¬ M b) : SR K H1 d xs ks g n :=
  ⟨h.dn.keep s nd nt, h.le, h.non, fun i k c a hk e => by
    obtain ⟨dx, ea⟩ := h.som i k c a hk e
    exact ⟨dx, s.kp _ _ (nx _ _ e) ea⟩, h.uni, fun e a ha => by
    obtain ⟨dx, t, ea⟩ := h.all e a ha
    exact ⟨dx, t, s.kp _ _ (nx _ _ ha) ea⟩⟩
theorem SR.same (h : SR K H d xs ks g n) (s : Same H H1) : SR K H1 d xs ks g n := h.keep (M := fun _ => False) (SameX.of s) (fun z => z) (fun _ _ _ z => z) fun _ _ _ z => z
theorem SR.mono {m : Nat} (h : SR K H d xs ks g n) (l : n ≤ m) : SR K H d xs ks g m := ⟨h.dn, Nat.le_trans h.le l, h.non, h.som, h.uni, h.all⟩
theorem slO_nl {dx : Addr} {t : Sl} {ys : List V} : slO K dx t ≠ .lst ys := MutO.sl.l ys
theorem slO_nt {dx : Addr} {t : Sl} {ys : List V} : slO K dx t ≠ .tup ys := MutO.sl.t ys
theorem SR.nl {e : NK} {s c : Addr} {ys : List V} (h : SR K H d xs ks g n) (he : lookN xs e = some s) (hc : H c = some (.lst ys)) : c ≠ s := fun z => by
  obtain ⟨dx, t, ea⟩ := h.all e s he
  rw [← z, hc] at ea
  exact slO_nl (K := K) (Option.some.inj ea).symm
theorem dN_nl {ys : List V} : dN d xs ≠ .lst ys := fun z => nomatch z
theorem SR.nd {e : NK} {s : Addr} (h : SR K H d xs ks g n) (he : lookN xs e = some s) : s ≠ d := fun z => by
  obtain ⟨dx, t, ea⟩ := h.all e s he
  rw [z, h.dn.e] at ea
  cases t <;> cases ea
theorem SR.dl {c : Addr} {ys : List V} (h : SR K H d xs ks g n) (hc : H c = some (.lst ys)) : c ≠ d := fun z => by rw [z, h.dn.e] at hc; cases hc
theorem SR.dt {c : Addr} {ys : List V} (h : SR K H d xs ks g n) (hc : H c = some (.tup ys)) : c ≠ d := fun z => by rw [z, h.dn.e] at hc; cases hc
/-- a new slot is put down -/
theorem SR.put {i : Nat} {k : Lk} {c : List Int} {b s dx : Addr} (h : SR K H d xs ks g n) (hk : ks[i]? = some k) (hl : lookN xs ((i : Int), c) = none) (hb : Kp H b ((i : Int), c)) (es : H s = some (slO K dx (new0 k.1))) (ns : ∀ e, lookN xs e ≠ some s) :
    SR K (upd H d (dN d (xs ++ [(((i : Int), c), b, s)]))) d (xs ++ [(((i : Int), c), b, s)]) ks g (n + 1) := by
  have X : SameX (· = d) H (upd H d (dN d (xs ++ [(((i : Int), c), b, s)]))) := (SameX.refl H).mut rfl
  have nsd : s ≠ d := fun z => by
    rw [z, h.dn.e] at es
    revert es
    unfold new0
    split
    · intro es; cases es
    · split
      · intro es; cases es
      · intro es; cases es
  have kp : ∀ {b : Addr} {k : NK}, Kp H b k → Kp (upd H d (dN d (xs ++ [(((i : Int), c), b, s)]))) b k := fun ⟨c, h1, h2⟩ => ⟨c, lk_mut (h.dt h1) h1, lk_mut (h.dt h2) h2⟩
  have kp' : ∀ {b' : Addr} {k : NK}, Kp H b' k → Kp (upd H d (dN d (xs ++ [(((i : Int), c), b, s)]))) b' k := fun ⟨c, h1, h2⟩ => ⟨c, lk_mut (h.dt h1) h1, lk_mut (h.dt h2) h2⟩
  refine ⟨⟨upd_same, fun x hx => ?_⟩, by rw [List.length_append, List.length_singleton]; have := h.le; omega, fun j k' c' hk' hn => ?_, fun j k' c' a hk' ha => ?_, fun e e' a h1 h2 => ?_, fun e a h1 => ?_⟩
  · rcases List.mem_append.mp hx with z | z
    · exact kp' (h.dn.k x z)
    · rw [List.mem_singleton.mp z]
      exact kp' hb
  · rw [lookN_snoc hl] at hn
    split at hn
    · cases hn
    · exact h.non j k' c' hk' hn
  · rw [lookN_snoc hl] at ha
    split at ha
    · rename_i z
      have z1 := congrArg Prod.fst z
      have z2 := congrArg Prod.snd z
      have z1 : (j : Int) = (i : Int) := z1
      have z2 : c' = c := z2
      have z1 : j = i := by omega
      subst z1 z2
      rw [hk] at hk'
      cases hk'
      cases ha
      exact ⟨dx, by rw [h.non j k c' hk hl]; exact lk_mut nsd es⟩
    · obtain ⟨dx', ea⟩ := h.som j k' c' a hk' ha
      exact ⟨dx', lk_mut (h.nd ha) ea⟩
  · rw [lookN_snoc hl] at h1 h2
    split at h1
    · rename_i z1
      cases h1
      split at h2
      · rename_i z2
        rw [z1, z2]
      · exact absurd h2 (ns _)
    · split at h2
      · cases h2
        exact absurd h1 (ns _)
      · exact h.uni e e' a h1 h2
  · rw [lookN_snoc hl] at h1
    split at h1
    · cases h1
      exact ⟨dx, _, lk_mut nsd es⟩
    · obtain ⟨dx', t, ea⟩ := h.all e a h1
      exact ⟨dx', t, lk_mut (h.nd h1) ea⟩
/-- a slot has learnt -/
theorem SR.step {i : Nat} {k : Lk} {c : List Int} {s dx : Addr} {t : Sl} (h : SR K H d xs ks g n) (hk : ks[i]? = some k) (hl : lookN xs ((i : Int), c) = some s) :
    SR K (upd H s (slO K dx t)) d xs ks (fun j => if j = i then updB (g i) c t else g j) n := by
  have e0 := h.all _ _ hl
  obtain ⟨dx0, t0, e0⟩ := e0
  have X : SameX (· = s) H (upd H s (slO K dx t)) := (SameX.refl H).mut rfl
  refine ⟨h.dn.keep X (fun z => h.nd hl z.symm) (fun b ys hb z => by rw [z, e0] at hb; exact slO_nt (K := K) (Option.some.inj hb)), h.le, fun j k' c' hk' hn => ?_, fun j k' c' a hk' ha => ?_, h.uni, fun e a ha => ?_⟩
  · have z := h.non j k' c' hk' hn
    by_cases e : j = i
    · subst e
      simp only [if_true]
      unfold updB
      rw [if_neg (fun y => by rw [y, hl] at hn; cases hn)]
      exact z
    · simp only [e, if_false]
      exact z
  · by_cases z : a = s
    · subst z
      have y := h.uni _ _ _ ha hl
      have z1 := congrArg Prod.fst y
      have z2 := congrArg Prod.snd y
      have z1 : (j : Int) = (i : Int) := z1
      have z2 : c' = c := z2
      have z1 : j = i := by omega
      subst z1 z2
      refine ⟨dx, ?_⟩
      simp only [if_true]
      unfold updB
      rw [if_pos rfl]
      exact upd_same
    · obtain ⟨dx', ea⟩ := h.som j k' c' a hk' ha
      refine ⟨dx', ?_⟩
      rw [upd_ne z, ea]
      by_cases e : j = i
      · subst e
        simp only [if_true]
        unfold updB
        rw [if_neg (fun y => z (by rw [y, hl] at ha; exact (Option.some.inj ha).symm))]
      · simp only [e, if_false]
  · by_cases z : a = s
    · exact ⟨dx, t, by rw [z]; exact upd_same⟩
    · obtain ⟨dx', t', ea⟩ := h.all e a ha
      exact ⟨dx', t', by rw [upd_ne z]; exact ea⟩
end
section
variable (K : PySem.W.Frag)
def F_Lcontext (K : PySem.W.Frag) : V → V → V → Hp → VK → XK → Prop := fun x y z H Q _ => ∃ (lb c : Addr) (ps : List Int) (ns : List Int) (node : Int), x = .ref lb ∧ y = .ref c ∧ z = .int node ∧ H lb = some (.tup (ps.map V.int)) ∧ Plc ps ∧ H c = some (.lst (ns.map V.int)) ∧ ns.length ≤ 1000 ∧ ∀ p H', H p = none → Same H H' → H' p = some (.tup ((ctx ps ns node).map V.int)) → Q (.ref p) H'
abbrev sp_Lcontext (K : PySem.W.Frag) : Sp := on3 (F_Lcontext K)
def t_Lcontext (K : PySem.W.Frag) (E : XK) : TS :=
  tSeq (tAsg (tOp (rPlus K) (tOp (rTimes) (tLst (tCons (tC (.int 256)) (tNil))) (tC (.int 8))) (tVar 1)) (gName 3))
  (tRet (tCB (rTupleOf K) (tCons (tOp (rPlus K) (tLc (iTup K (tVar 0)) (gName 4) (tYes) (tOp (rIx K) (tVar 3) (tOp (rMinus) (tCB (rLength K) (tCons (tVar 3) (tNil))) (tVar 4))) [4]) (tLst (tCons (tVar 2) (tNil)))) (tNil))))
theorem pure_Lcontext {x y z : V} {H : Hp} {Q : VK} {E : XK} (h : F_Lcontext K x y z H Q E) : t_Lcontext K E ⟨fun _ H' => Q .non H', Q, fun _ _ => False, fun _ _ => False⟩ [some x, some y, some z, none, none] H := by
  refine Bx.out ?_
  simp (disch := with_unfolding_all
  obtain ⟨lb, c, ps, ns, node, rfl, rfl, rfl, e2, P, ec, nl, q⟩ := h
  have p4 := P.len
  unfold t_Lcontext
  walk_at "go"
  intro o0 no0
  refine g_rep upd_same (by decide) (by decide) (by decide) ?_
  intro o no
  have s1 := same_new (u := .lst ((List.replicate 8 (256 : Int)).map V.int)) (same_new (u := .lst [V.int 256]) (Same.refl H) no0) no
  rw [show (8 : Int).toNat = 8 from rfl, rep1']
  have eo : (upd (upd H o0 (.lst [V.int 256])) o (.lst ((List.replicate 8 (256 : Int)).map V.int))) o = some (.lst ((List.replicate 8 (256 : Int)).map V.int)) := upd_same
  generalize upd (upd H o0 (.lst [V.int 256])) o (.lst ((List.replicate 8 (256 : Int)).map V.int)) = H1 at s1 eo ⊢
  walk_at "go"
  intro m nm
  rw [← List.map_append]
  have s2 := same_new (u := .lst ((List.replicate 8 (256 : Int) ++ ns).map V.int)) s1 nm
  have em : (upd H1 m (.lst ((List.replicate 8 (256 : Int) ++ ns).map V.int))) m = some (.lst ((List.replicate 8 (256 : Int) ++ ns).map V.int)) := upd_same
  generalize upd H1 m (.lst ((List.replicate 8 (256 : Int) ++ ns).map V.int)) = H2 at s2 em ⊢
  walk_at "go"
  refine lc_TI (stt_of (s2 _ _ e2)) (fun z => .int (ctxAt ns z)) (by omega) (fun z hz D H3 Q3 s3 k3 => ?_) fun D H3 nD s3 eD => ?_
  · obtain ⟨z1, z8⟩ := P.all z hz
    have em3 := s3 _ _ em
    walk_at "go"
    rw [List.length_map, List.length_append, List.length_replicate]
    refine g_ixL (sq_of em3) (ctx_ix25 z1 z8) ?_
    exact k3 _ (Same.refl _)
  have eD2 : H3 D = some (.lst ((ps.map (ctxAt ns)).map V.int)) := by
    rw [eD, List.map_map]
    rfl
  have szD : ((ps.map (ctxAt ns)).map V.int).length = ps.length := by rw [List.length_map, List.length_map]
  clear eD
  walk_at "gn"
  rename_i u1 nu1 u2 nu2 p np
  have s4 := same_new (u := .lst ((ps.map (ctxAt ns) ++ [node]).map V.int)) (same_new (u := .lst (([node] : List Int).map V.int)) (Same.refl H3) nu1) nu2
  have S4 := Same.trans s2 (Same.trans s3 s4)
  exact q p _ (S4.free np) (same_new S4 np) upd_same
  ) only [↓Bx.eq]
def F_Lslots (K : PySem.W.Frag) : V → V → V → V → Hp → VK → XK → Prop := fun x y z u H Q _ => ∃ (l d c : Addr) (las : List Addr) (ks : List Lk) (xs : List NE) (g : Nat → BkF) (n : Nat) (ns : List Int) (node : Int), x = .ref l ∧ y = .ref d ∧ z = .ref c ∧ u = .int node ∧ LooksH H l las ks ∧ LksOk ks ∧ SR K H d xs ks g n ∧ n ≤ 16000000 ∧ H c = some (.lst (ns.map V.int)) ∧ ns.length ≤ 1000 ∧
  ∀ (D : Addr) (ss : List Addr) (xs' : List NE) (H' : Hp), H D = none → SameX (· = d) H H' → H' D = some (.lst (ss.map V.ref)) → ss.length = ks.length → SR K H' d xs' ks g (n + 6) → (∀ e s, lookN xs' e = some s → lookN xs e = some s ∨ H s = none) → (∀ (i : Nat) k s, ks[i]? = some k → ss[i]? = some s → lookN xs' ((i : Int), ctx k.2 ns node) = some s) → Q (.ref D) H'
abbrev sp_Lslots (K : PySem.W.Frag) : Sp := on4 (F_Lslots K)
def t_Lslots (K : PySem.W.Frag) (E : XK) : TS :=
  tSeq (tAsg (tLst (tNil)) (gName 4))
  (tSeq (tFor (iRng1 (tCons (tCB (rLength K) (tCons (tVar 0) (tNil))) (tNil))) (gName 5) (tSeq (tAsg (tTup (tCons (tVar 5) (tCons (tFun (sp_Lcontext K) [] (fun _ => E) (tCons (tOp (rIx K) (tOp (rIx K) (tVar 0) (tVar 5)) (tC (.int 1))) (tCons (tVar 2) (tCons (tVar 3) (tNil))))) (tNil)))) (gName 6))
  (tSeq (tIfS (tB (tDNotInZ (tVar 6) (tVar 1))) (sDPutZ (tVar 1) (tVar 6) (tFun (sp_slot_of K) [] (fun _ => E) (tCons (tOp (rIx K) (tOp (rIx K) (tVar 0) (tVar 5)) (tC (.int 0))) (tNil)))) (tNext))
  (tDrop (tBM K "list" (rAppend) (tVar 4) (tCons (tDGetZ (tVar 1) (tVar 6)) (tNil)))))))
  (tRet (tVar 4)))
theorem slots_app {l d c D t s : Addr} {ss : List Addr} {node i : Int} {key : NK} {xs : List NE} {H4 : Hp} {nx bk ct : St → Hp → Prop} {rt : VK} {E : XK} (eD : H4 D = some (.lst (ss.map V.ref))) (sl : ss.length ≤ 6) (dn : DN H4 d xs) (kp : Kp H4 t key) (hl : lookN xs key = some s)
    (q : nx [some (.ref l), some (.ref d), some (.ref c), some (.int node), some (.ref D), some (.int i), some (.ref t)] (upd H4 D (.lst ((ss ++ [s]).map V.ref)))) :
    (tDrop (tBM K "list" (rAppend) (tVar 4) (tCons (tDGetZ (tVar 1) (tVar 6)) (tNil)))) ⟨nx, rt, bk, ct⟩ [some (.ref l), some (.ref d), some (.ref c), some (.int node), some (.ref D), some (.int i), some (.ref t)] H4 := by
  refine Bx.out ?_
  simp (disch := with_unfolding_all
  walk_at "gn"
  refine g_dgetZ ?_
  walk_at "gn"
  refine ⟨d, t, xs, key, s, rfl, rfl, dn, kp, hl, ?_⟩
  rw [List.map_append] at q
  walk_at "gn"
  exact q
  ) only [↓Bx.eq]
theorem pure_Lslots {x y z u : V} {H : Hp} {Q : VK} {E : XK} (h : F_Lslots K x y z u H Q E) : t_Lslots K E ⟨fun _ H' => Q .non H', Q, fun _ _ => False, fun _ _ => False⟩ [some x, some y, some z, some u, none, none, none] H := by
  refine Bx.out ?_
  simp (disch := with_unfolding_all
  obtain ⟨l, d, c, las, ks, xs, g, n, ns, node, rfl, rfl, rfl, rfl, L, ok, R, hn, ec, nl, q⟩ := h
  have l6 := ok.l6
  have ll := L.len
  have el := L.lst
  unfold t_Lslots
  walk_at "go"
  intro D nD
  have ndD : D ≠ d := fun z => by rw [z, R.dn.e] at nD; cases nD
  have s1 := same_new (u := .lst []) (Same.refl H) nD
  have el1 := s1 _ _ el
  walk_at "go"
  rw [List.length_map]
  refine for_R1 (k := las.length) rfl (by omega) (fun i σ H1 => ∃ (u5 u6 : Option V) (ss : List Addr) (xs' : List NE), σ = [some (.ref l), some (.ref d), some (.ref c), some (.int node), some (.ref D), u5, u6] ∧ i ≤ ks.length ∧ ss.length = i ∧ SameX (· = d) H H1 ∧ H1 D = some (.lst (ss.map V.ref)) ∧ SR K H1 d xs' ks g (n + i) ∧ (∀ e s, lookN xs' e = some s → lookN xs e = some s ∨ H s = none) ∧ (∀ (j : Nat) k s, ks[j]? = some k → ss[j]? = some s → lookN xs' ((j : Int), ctx k.2 ns node) = some s)) ?_ ?_ ?_
  · exact ⟨_, _, [], xs, rfl, Nat.zero_le _, rfl, SameX.of s1, upd_same, R.same s1, fun e s h => .inl h, fun j k s _ h => by simp at h⟩
  · clear el1 s1
    rintro i σ H1 hi ⟨u5, u6, ss, xs', rfl, -, sl, X, eD, R1, old, got⟩
    have hk : ks[i]? = some (ks[i]'(by omega)) := List.getElem?_eq_getElem (by omega)
    have ha : las[i]? = some las[i] := List.getElem?_eq_getElem hi
    generalize ks[i]'(by omega) = k at hk
    generalize las[i] = la at ha
    have kok := ok.all k (List.mem_of_getElem? hk)
    have L1 := L.keep X (R.dl el) fun b ys hb => R.dt hb
    have el1 := L1.lst
    obtain ⟨lb, f1, f2⟩ := L1.at_ i la k ha hk
    have ixl : atI (las.map V.ref) (i : Int) = some (.ref la) := ix_ref ha
    have ec1 := X.kp _ _ (R.dl ec) ec
    walk_at "gn"
    refine ⟨lb, c, k.2, ns, node, rfl, rfl, rfl, f2, kok.plc, ec1, nl, fun p H2 np s2 ep => ?_⟩
    have eD2 := s2 _ _ eD
    have R2 := R1.same s2
    have L2 := L1.same s2
    have el2 := L2.lst
    obtain ⟨lb2, f12, f22⟩ := L2.at_ i la k ha hk
    walk_at "gn"
    rename_i t nt
    have ntH : H t = none := X.dm _ (s2.free nt)
    have s3 := same_new (u := .tup [.int (i : Int), .ref p]) (Same.refl H2) nt
    have et : Kp (upd H2 t (.tup [.int (i : Int), .ref p])) t ((i : Int), ctx k.2 ns node) := ⟨p, upd_same, lk_new ep nt⟩
    generalize upd H2 t (.tup [.int (i : Int), .ref p]) = H3 at s3 et ⊢
    have R3 := R2.same s3
    have eD3 := s3 _ _ eD2
    have X3 := X.trans (SameX.of (Same.trans s2 s3))
    refine g_dnotinZ ?_
    walk_at "gn"
    refine ⟨d, t, xs', _, rfl, rfl, R3.dn, et, _, rfl, ?_⟩
    have fin : ∀ (H4 : Hp) (xs4 : List NE) (s : Addr), SameX (· = d) H H4 → H4 D = some (.lst (ss.map V.ref)) → SR K H4 d xs4 ks g (n + (i + 1)) → (∀ e s, lookN xs4 e = some s → lookN xs e = some s ∨ H s = none) → (∀ e s, lookN xs' e = some s → lookN xs4 e = some s) → lookN xs4 ((i : Int), ctx k.2 ns node) = some s →
        ∃ (u5 u6 : Option V) (ss' : List Addr) (xs' : List NE), [some (.ref l), some (.ref d), some (.ref c), some (.int node), some (.ref D), some (.int (i : Int)), some (.ref t)] = [some (V.ref l), some (.ref d), some (.ref c), some (.int node), some (.ref D), u5, u6] ∧ i + 1 ≤ ks.length ∧ ss'.length = i + 1 ∧ SameX (· = d) H (upd H4 D (.lst ((ss ++ [s]).map V.ref))) ∧ (upd H4 D (.lst ((ss ++ [s]).map V.ref))) D = some (.lst (ss'.map V.ref)) ∧ SR K (upd H4 D (.lst ((ss ++ [s]).map V.ref))) d xs' ks g (n + (i + 1)) ∧ (∀ e s, lookN xs' e = some s → lookN xs e = some s ∨ H s = none) ∧ (∀ (j : Nat) k s, ks[j]? = some k → ss'[j]? = some s → lookN xs' ((j : Int), ctx k.2 ns node) = some s) := by
      intro H4 xs4 s X4 eD4 R4 old4 up4 hl
      have XD : SameX (· = D) H4 (upd H4 D (.lst ((ss ++ [s]).map V.ref))) := (SameX.refl H4).mut rfl
      refine ⟨_, _, ss ++ [s], xs4, rfl, by omega, by rw [List.length_append, List.length_singleton, sl], X4.newmut nD, upd_same, R4.keep XD (fun z => ndD z.symm) (fun e a ha z => R4.nl ha eD4 z.symm) (fun b ys hb => ne_kind hb eD4 (by intro z; cases z)), old4, fun j k' a hk' ha' => ?_⟩
      rw [List.getElem?_append] at ha'
      split at ha'
      · exact up4 _ _ (got j k' a hk' ha')
      · rename_i cj
        have hj := (List.getElem?_eq_some_iff.mp ha').1
        rw [List.length_singleton] at hj
        have z : j = i := by omega
        subst z
        rw [hk] at hk'
        cases hk'
        rw [sl, Nat.sub_self] at ha'
        cases ha'
        exact hl
    cases hl : lookN xs' ((i : Int), ctx k.2 ns node) with
    | some s =>
      rw [if_neg (by simp)]
      refine g_next ?_
      exact slots_app (E := E) K eD3 (by omega) R3.dn et hl (fin H3 xs' s X3 eD3 (R3.mono (by omega)) old (fun _ _ h => h) hl)
    | none =>
      rw [if_pos (by simp)]
      have el3 := s3 _ _ el2
      have f13 := s3 _ _ f12
      refine g_dputZ ?_
      walk_at "gn"
      refine ⟨k.1, rfl, fun s dx H5 ns5 s5 es => ?_⟩
      have R5 := R3.same s5
      have nsx : ∀ e, lookN xs' e ≠ some s := fun e z => by
        obtain ⟨dx', t', ea⟩ := R3.all e s z
        rw [ns5] at ea
        cases ea
      have R6 := R5.put hk hl (et.same s5) es nsx
      have eD5 := s5 _ _ eD3
      have X5 := X3.trans (SameX.of s5)
      walk_at "gn"
      have nl5 := R5.le
      refine ⟨d, t, xs', _, s, rfl, rfl, rfl, R5.dn, et.same s5, hl, Nat.lt_of_le_of_lt (m := 16000010) (by omega) (by decide), ?_⟩
      have hl6 := (lookN_snoc (b := t) (s := s) hl ((i : Int), ctx k.2 ns node)).trans (if_pos rfl)
      refine slots_app (E := E) K (lk_mut ndD eD5) (by omega) R6.dn (R6.dn.k _ (List.mem_append_right _ (List.mem_singleton_self _))) hl6 (fin _ _ s (X5.mut rfl) (lk_mut ndD eD5) R6 (fun e a ha => ?_) (fun e a ha => ?_) hl6)
      · rw [lookN_snoc hl] at ha
        split at ha
        · cases ha
          exact .inr (X3.dm _ ns5)
        · exact old e a ha
      · rw [lookN_snoc hl, if_neg (fun z => by rw [z, hl] at ha; cases ha)]
        exact ha
  · rintro σ H1 ⟨u5, u6, ss, xs', rfl, -, sl, X, eD, R1, old, got⟩
    walk_at "gn"
    exact q D ss xs' H1 nD X eD (by omega) (R1.mono (by omega)) old got
  ) only [↓Bx.eq]
end
/-! k25: one decision of the law's loop -/
def lawE (sg : List Int) (nd b : Int) : List Int := if nd > 127 then sg ++ [2 * nd + b - 256] else sg
def lawP (nd b : Int) : Int := if nd > 127 then 0 else if nd > 0 then 2 * nd + b else b
theorem lawP_go {nd b : Int} (h0 : 0 ≤ nd) (hb : 0 ≤ b ∧ b ≤ 1) : lawP nd b = goP nd b := by
  unfold lawP goP
  by_cases c1 : nd > 127
  · rw [if_pos c1, if_pos (by omega), if_pos (by omega)]
  · rw [if_neg c1]
    by_cases c2 : nd > 0
    · rw [if_pos c2, if_pos c2, if_neg (by omega)]
    · rw [if_neg c2, if_neg c2]
      split <;> omega
theorem lawE_go {sg : List Int} {nd b : Int} (h0 : 0 ≤ nd) (hb : 0 ≤ b ∧ b ≤ 1) (c : nd ≠ 0 ∨ b = 1) : lawE sg nd b = goE sg nd b := by
  unfold lawE goE
  by_cases c1 : nd > 127
  · rw [if_pos c1, if_pos (by omega), if_pos (by omega)]
  · rw [if_neg c1]
    by_cases c2 : nd > 0
    · rw [if_pos c2, if_neg (by omega)]
    · rw [if_neg c2, if_pos (by omega)]
structure W25 (K : PySem.W.Frag) (H0 H : Hp) (a d : Addr) (Fp : Addr → Prop) (ks : List Lk) (xs : List NE) (bits : List Int) (g : Nat → BkF) (n : Nat) : Prop where
  s : Same H0 H
  A : ForAt K H a Fp ks bits
  R : SR K H d xs ks g n
  sd : ∀ x, Fp x → x ≠ d
  sx : ∀ x e, Fp x → lookN xs e ≠ some x
  f0 : ∀ x, Fp x → H0 x = none
  d0 : H0 d = none
  x0 : ∀ e s, lookN xs e = some s → H0 s = none
section
variable {K : PySem.W.Frag} {H0 H H1 : Hp} {a d : Addr} {Fp Fp' : Addr → Prop} {ks : List Lk} {xs : List NE} {bits : List Int} {g : Nat → BkF} {n : Nat}
theorem W25.same (h : W25 K H0 H a d Fp ks xs bits g n) (s : Same H H1) : W25 K H0 H1 a d Fp ks xs bits g n := ⟨Same.trans h.s s, h.A.same s, h.R.same s, h.sd, h.sx, h.f0, h.d0, h.x0⟩
/-- new slots were put down -/
theorem W25.slots {xs' : List NE} {m : Nat} (h : W25 K H0 H a d Fp ks xs bits g n) (X : SameX (· = d) H H1) (R : SR K H1 d xs' ks g m) (old : ∀ e s, lookN xs' e = some s → lookN xs e = some s ∨ H s = none) : W25 K H0 H1 a d Fp ks xs' bits g m := by
  refine ⟨SameX.back1 h.s X h.d0, h.A.keep X (fun b hb => h.sd b hb) (fun b ys hb => h.R.dt hb), R, h.sd, fun x e hx z => ?_, h.f0, h.d0, fun e s hs => ?_⟩
  · rcases old e x z with y | y
    · exact h.sx x e hx y
    · obtain ⟨o, ho, _⟩ := h.A.dom x hx
      rw [y] at ho
      cases ho
  · rcases old e s hs with y | y
    · exact h.x0 e s y
    · exact h.s.free y
/-- the foreteller has seen -/
theorem W25.see {bits' : List Int} (h : W25 K H0 H a d Fp ks xs bits g n) (X : SameX Fp H H1) (nF : ∀ x, Fp' x → Fp x ∨ H x = none) (A : ForAt K H1 a Fp' ks bits') : W25 K H0 H1 a d Fp' ks xs bits' g n := by
  refine ⟨SameX.back h.s X h.f0, A, h.R.keep X (fun z => h.sd d z rfl) (fun e s hs z => h.sx s e z hs) (fun b ys hb => h.A.nt b ys hb), fun x hx z => ?_, fun x e hx z => ?_, fun x hx => ?_, h.d0, h.x0⟩
  · rcases nF x hx with y | y
    · exact h.sd x y z
    · rw [z, h.R.dn.e] at y
      cases y
  · rcases nF x hx with y | y
    · exact h.sx x e y z
    · obtain ⟨dx, t, ea⟩ := h.R.all e x z
      rw [y] at ea
      cases ea
  · rcases nF x hx with y | y
    · exact h.f0 x y
    · exact h.s.free y
theorem see_nF {x : Addr} {o : HO} (nF : ∀ x, Fp' x → Fp x ∨ H x = none) (hx : H x = some o) (h : ¬ Fp x) : ¬ Fp' x := fun z => by
  rcases nF x z with y | y
  · exact h y
  · rw [hx] at y
    cases y
/-- a slot has learnt -/
theorem W25.step {i : Nat} {k : Lk} {c : List Int} {s dx : Addr} {t : Sl} (h : W25 K H0 H a d Fp ks xs bits g n) (hk : ks[i]? = some k) (hl : lookN xs ((i : Int), c) = some s) : W25 K H0 (upd H s (slO K dx t)) a d Fp ks xs bits (fun j => if j = i then updB (g i) c t else g j) n := by
  have X : SameX (· = s) H (upd H s (slO K dx t)) := (SameX.refl H).mut rfl
  obtain ⟨dx0, t0, e0⟩ := h.R.all _ _ hl
  exact ⟨SameX.back1 h.s X (h.x0 _ _ hl), h.A.keep X (fun b hb z => h.sx b ((i : Int), c) hb (by rw [z]; exact hl)) (fun b ys hb z => by rw [z, e0] at hb; exact slO_nt (K := K) (Option.some.inj hb)), h.R.step hk hl, h.sd, h.sx, h.f0, h.d0, h.x0⟩
end
def g25 (ks : List Lk) (st : Fst) (b : Int) (i : Nat) : Nat → BkF := fun j => if j < i then bkS ks st b j else st.bk j
theorem g25_zero (ks : List Lk) (st : Fst) (b : Int) : g25 ks st b 0 = st.bk := by funext j; unfold g25; rw [if_neg (Nat.not_lt_zero _)]
theorem g25_succ {ks : List Lk} {st : Fst} {b : Int} {i : Nat} {k : Lk} (h : ks[i]? = some k) : (fun j => if j = i then updB (g25 ks st b i i) (ctx k.2 st.ended st.place) (seenS (g25 ks st b i i (ctx k.2 st.ended st.place)) b) else g25 ks st b i j) = g25 ks st b (i + 1) := by
  funext j
  unfold g25
  by_cases e : j = i
  · subst e
    rw [if_pos rfl, if_neg (Nat.lt_irrefl _), if_pos (Nat.lt_succ_self _)]
    unfold bkS
    rw [h]
  · rw [if_neg e]
    by_cases c : j < i
    · rw [if_pos c, if_pos (by omega)]
    · rw [if_neg c, if_neg (by omega)]
theorem g25_all (ks : List Lk) (st : Fst) (b : Int) : g25 ks st b ks.length = bkS ks st b := by
  funext j
  unfold g25
  split
  · rfl
  · unfold bkS
    rw [List.getElem?_eq_none (by omega)]
section
variable (K : PySem.W.Frag)
def t_Lseen (K : PySem.W.Frag) (E : XK) : TS :=
  tSeq (tAsg (tC (.int 0)) (gName 5))
  (tSeq (tAsg (tLst (tNil)) (gName 6))
  (tSeq (tFor (iList K (tFun (sp_Lbits K) [] (fun _ => E) (tCons (tVar 4) (tNil)))) (gName 7) (tSeq (tAsg (tFun (sp_Lslots K) [] (fun _ => E) (tCons (tVar 1) (tCons (tVar 2) (tCons (tVar 6) (tCons (tVar 5) (tNil)))))) (gName 8))
  (tSeq (tAsg (tLc (iList K (tVar 8)) (gName 11) (tYes) (tMth "chance" (orM (one (He.ga K "Even") (sp_Even_chance K)) (orM (one (He.ga K "Quick") (sp_Quick_chance K)) (one (He.ga K "Run") (sp_Run_chance K)))) (fun _ => E0) (tVar 11) (tNil)) [11]) (gName 9))
  (tSeq (tIfS (tOr (tTest (tOp (rDiff K) (tMth "chances" (one (He.ga K "Foreteller") (sp_Foreteller_chances K)) (fun _ => E) (tVar 0) (tNil)) (tVar 9))) (tTest (tOp (rDiff K) (tMth "chance" (one (He.ga K "Foreteller") (sp_Foreteller_chance K)) (fun _ => E) (tVar 0) (tNil)) (tFun (sp_Lmixed K) [] (fun _ => E) (tCons (tVar 3) (tCons (tVar 9) (tNil))))))) (tRet (tC .non)) (tNext))
  (tSeq (tIfS (tTest (tOp (rSame K) (tVar 5) (tC (.int 0)))) (tSeq (tAsg (tMth "signs" (one (He.ga K "Foreteller") (sp_Foreteller_signs K)) (fun _ => E) (tVar 0) (tNil)) (gName 10))
  (tSeq (tIfS (tOr (tNot (tTru K (tCB (rIsi2 K) (tCons (tVar 10) (tCons (tC (.ty "list")) (tNil)))))) (tTest (tOp (rDiff K) (tVar 10) (tVar 6)))) (tRet (tC .non)) (tNext))
  (tDrop (tBM K "list" (rAppend) (tVar 10) (tCons (tC (.int 7)) (tNil)))))) (tNext))
  (tSeq (tDrop (tMth "see" (one (He.ga K "Foreteller") (sp_Foreteller_see K)) (fun _ => E) (tVar 0) (tCons (tVar 7) (tNil))))
  (tSeq (tFor (iList K (tVar 8)) (gName 11) (tDrop (tMth "seen" (orM (one (He.ga K "Even") (sp_Even_seen K)) (orM (one (He.ga K "Quick") (sp_Quick_seen K)) (one (He.ga K "Run") (sp_Run_seen K)))) (fun _ => E) (tVar 11) (tCons (tVar 7) (tNil)))))
  (tSeq (tAsg (tFun (sp_Llearnt K) [] (fun _ => E) (tCons (tVar 3) (tCons (tVar 9) (tCons (tVar 7) (tNil))))) (gName 3))
  (tIfS (tTest (tOp (iGt) (tVar 5) (tC (.int 127)))) (tSeq (tAsg (tOp (rPlus K) (tVar 6) (tLst (tCons (tOp (rMinus) (tOp (rPlus K) (tOp (rTimes) (tC (.int 2)) (tVar 5)) (tVar 7)) (tC (.int 256))) (tNil)))) (gName 6))
  (tAsg (tC (.int 0)) (gName 5))) (tIfS (tTest (tOp (iGt) (tVar 5) (tC (.int 0)))) (tAsg (tOp (rPlus K) (tOp (rTimes) (tC (.int 2)) (tVar 5)) (tVar 7)) (gName 5)) (tAsg (tVar 7) (gName 5))))))))))))
  (tSeq (tIfS (tOr (tTest (tOp (rDiff K) (tVar 6) (tVar 4))) (tTest (tOp (rDiff K) (tMth "weights" (one (He.ga K "Foreteller") (sp_Foreteller_weights K)) (fun _ => E) (tVar 0) (tNil)) (tVar 3)))) (tRet (tC .non)) (tNext))
  (tRet (tVar 3)))))
theorem seen7 {a l d w t c D dc : Addr} {u10 u11 : Option V} {nd b : Int} {sg : List Int} {H : Hp} {nx bk ct : St → Hp → Prop} {rt : VK} {E : XK} (ec : H c = some (.lst (sg.map V.int))) (sl : sg.length ≤ 1000) (h0 : 0 ≤ nd ∧ nd ≤ 255)
    (q : ∀ c' H', Same H H' → H' c' = some (.lst ((lawE sg nd b).map V.int)) → (c' = c ∨ H c' = none) → nx [some (.ref a), some (.ref l), some (.ref d), some (.ref w), some (.ref t), some (.int (lawP nd b)), some (.ref c'), some (.int b), some (.ref D), some (.ref dc), u10, u11] H') :
    (tIfS (tTest (tOp (iGt) (tVar 5) (tC (.int 127)))) (tSeq (tAsg (tOp (rPlus K) (tVar 6) (tLst (tCons (tOp (rMinus) (tOp (rPlus K) (tOp (rTimes) (tC (.int 2)) (tVar 5)) (tVar 7)) (tC (.int 256))) (tNil)))) (gName 6)) (tAsg (tC (.int 0)) (gName 5))) (tIfS (tTest (tOp (iGt) (tVar 5) (tC (.int 0)))) (tAsg (tOp (rPlus K) (tOp (rTimes) (tC (.int 2)) (tVar 5)) (tVar 7)) (gName 5)) (tAsg (tVar 7) (gName 5)))) ⟨nx, rt, bk, ct⟩ [some (.ref a), some (.ref l), some (.ref d), some (.ref w), some (.ref t), some (.int nd), some (.ref c), some (.int b), some (.ref D), some (.ref dc), u10, u11] H := by
  refine Bx.out ?_
  simp (disch := with_unfolding_all
  unfold lawE lawP at q
  walk_at "gn"
  refine dif (fun c1 => ?_) fun c1 => ?_
  · rw [if_pos c1, if_pos c1] at q
    walk_at "gn"
    rename_i x1 n1 x2 n2
    exact q x2 _ (by walk_at "sm") upd_same (.inr (upd_none n2))
  · rw [if_neg c1, if_neg c1] at q
    walk_at "gn"
    refine dif (fun c2 => ?_) fun c2 => ?_
    · rw [if_pos c2] at q
      walk_at "gn"
      exact q c _ (Same.refl _) ec (.inl rfl)
    · rw [if_neg c2] at q
      walk_at "gn"
      exact q c _ (Same.refl _) ec (.inl rfl)
  ) only [↓Bx.eq]
theorem seen4 {a l d w t c D dc bl : Addr} {u10 u11 : Option V} {b : Int} {sg bs : List Int} {H0 H : Hp} {Fp : Addr → Prop} {ks : List Lk} {xs : List NE} {bits : List Int} {n : Nat} {ss : List Addr} {nx bk ct : St → Hp → Prop} {rt : VK} {E : XK}
    (W : W25 K H0 H a d Fp ks xs bits (stF ks bits).bk n) (ok : LksOk ks) (hb : Bits bits) (hn : bits.length ≤ 700000) (b01 : 0 ≤ b ∧ b ≤ 1)
    (eD : H D = some (.lst (ss.map V.ref))) (sl : ss.length = ks.length) (fD : ¬ Fp D) (got : ∀ (i : Nat) k s, ks[i]? = some k → ss[i]? = some s → lookN xs ((i : Int), ctx k.2 (stF ks bits).ended (stF ks bits).place) = some s)
    (edc : H dc = some (.lst ((chancesF ks (stF ks bits)).map V.int))) (fdc : ¬ Fp dc) (ew : H w = some (.lst ((stF ks bits).ws.map V.int))) (fw : ¬ Fp w) (ec : H c = some (.lst (sg.map V.int))) (fc : ¬ Fp c) (sgl : sg.length ≤ 1000) (ebl : H bl = some (.lst (bs.map V.int))) (fbl : ¬ Fp bl)
    (q : ∀ w' c' Fp' H' u11, W25 K H0 H' a d Fp' ks xs (bits ++ [b]) (stF ks (bits ++ [b])).bk n → H' w' = some (.lst ((stF ks (bits ++ [b])).ws.map V.int)) → ¬ Fp' w' → H' c' = some (.lst ((lawE sg (stF ks bits).place b).map V.int)) → ¬ Fp' c' → H' bl = some (.lst (bs.map V.int)) → ¬ Fp' bl →
      nx [some (.ref a), some (.ref l), some (.ref d), some (.ref w'), some (.ref t), some (.int (lawP (stF ks bits).place b)), some (.ref c'), some (.int b), some (.ref D), some (.ref dc), u10, u11] H') :
    (tSeq (tDrop (tMth "see" (one (He.ga K "Foreteller") (sp_Foreteller_see K)) (fun _ => E) (tVar 0) (tCons (tVar 7) (tNil)))) (tSeq (tFor (iList K (tVar 8)) (gName 11) (tDrop (tMth "seen" (orM (one (He.ga K "Even") (sp_Even_seen K)) (orM (one (He.ga K "Quick") (sp_Quick_seen K)) (one (He.ga K "Run") (sp_Run_seen K)))) (fun _ => E) (tVar 11) (tCons (tVar 7) (tNil))))) (tSeq (tAsg (tFun (sp_Llearnt K) [] (fun _ => E) (tCons (tVar 3) (tCons (tVar 9) (tCons (tVar 7) (tNil))))) (gName 3)) (tIfS (tTest (tOp (iGt) (tVar 5) (tC (.int 127)))) (tSeq (tAsg (tOp (rPlus K) (tVar 6) (tLst (tCons (tOp (rMinus) (tOp (rPlus K) (tOp (rTimes) (tC (.int 2)) (tVar 5)) (tVar 7)) (tC (.int 256))) (tNil)))) (gName 6)) (tAsg (tC (.int 0)) (gName 5))) (tIfS (tTest (tOp (iGt) (tVar 5) (tC (.int 0)))) (tAsg (tOp (rPlus K) (tOp (rTimes) (tC (.int 2)) (tVar 5)) (tVar 7)) (gName 5)) (tAsg (tVar 7) (gName 5))))))) ⟨nx, rt, bk, ct⟩ [some (.ref a), some (.ref l), some (.ref d), some (.ref w), some (.ref t), some (.int (stF ks bits).place), some (.ref c), some (.int b), some (.ref D), some (.ref dc), u10, u11] H := by
  refine Bx.out ?_
  simp (disch := with_unfolding_all
  have Fk := fokF ok hb
  have co := cokF Fk
  have pl := Fk.pl
  have l6 := ok.l6
  have tail := fun {w' : Addr} {u11 : Option V} {H2 : Hp} => seen7 (K := K) (a := a) (l := l) (d := d) (w := w') (t := t) (c := c) (D := D) (dc := dc) (u10 := u10) (u11 := u11) (nd := (stF ks bits).place) (b := b) (sg := sg) (H := H2) (nx := nx) (bk := bk) (ct := ct) (rt := rt) (E := E)
  generalize (tIfS (tTest (tOp (iGt) (tVar 5) (tC (.int 127)))) (tSeq (tAsg (tOp (rPlus K) (tVar 6) (tLst (tCons (tOp (rMinus) (tOp (rPlus K) (tOp (rTimes) (tC (.int 2)) (tVar 5)) (tVar 7)) (tC (.int 256))) (tNil)))) (gName 6)) (tAsg (tC (.int 0)) (gName 5))) (tIfS (tTest (tOp (iGt) (tVar 5) (tC (.int 0)))) (tAsg (tOp (rPlus K) (tOp (rTimes) (tC (.int 2)) (tVar 5)) (tVar 7)) (gName 5)) (tAsg (tVar 7) (gName 5)))) = R7 at tail ⊢
  walk_at "gn"
  refine fore_one W.A (fun _ _ _ _ _ _ => rfl) ?_
  walk_at "gn"
  refine see_of W.A ok hb (by omega) b01 fun Fp1 H1 X1 nF A1 => ?_
  have W1 := W.see X1 nF A1
  have kp : ∀ {y : Addr} {ys : List V}, H y = some (.lst ys) → ¬ Fp y → H1 y = some (.lst ys) ∧ ¬ Fp1 y := fun e f => ⟨X1.kp _ _ f e, see_nF nF e f⟩
  obtain ⟨eD1, fD1⟩ := kp eD fD
  obtain ⟨edc1, fdc1⟩ := kp edc fdc
  obtain ⟨ew1, fw1⟩ := kp ew fw
  obtain ⟨ec1, fc1⟩ := kp ec fc
  obtain ⟨ebl1, fbl1⟩ := kp ebl fbl
  clear kp W eD edc ew ec ebl X1 nF A1
  walk_at "gn"
  refine for_L (sq_of eD1) (fun i σ H2 => ∃ u11, σ = [some (.ref a), some (.ref l), some (.ref d), some (.ref w), some (.ref t), some (.int (stF ks bits).place), some (.ref c), some (.int b), some (.ref D), some (.ref dc), u10, u11] ∧ W25 K H0 H2 a d Fp1 ks xs (bits ++ [b]) (g25 ks (stF ks bits) b i) n ∧ SameX (fun x => ∃ e, lookN xs e = some x) H1 H2 ∧ i ≤ ks.length) ?_ ?_ ?_ ?_
  · exact ⟨_, rfl, by rw [g25_zero]; exact W1, SameX.refl _, Nat.zero_le _⟩
  · rintro i σ H2 ⟨u11, rfl, W2, X2, -⟩
    exact sq_of (X2.kp _ _ (fun ⟨e, he⟩ => W1.R.nl he eD1 rfl) eD1)
  · rintro i v σ H2 hv ⟨u11, rfl, W2, X2, hi⟩
    obtain ⟨s, hs, rfl⟩ := map_at hv
    have hi := (List.getElem?_eq_some_iff.mp hs).1
    have hk : ks[i]? = some (ks[i]'(by omega)) := List.getElem?_eq_getElem (by omega)
    generalize ks[i]'(by omega) = k at hk
    have hl := got i k s hk hs
    obtain ⟨dx, es⟩ := W2.R.som i k _ s hk hl
    have gi : g25 ks (stF ks bits) b i i = (stF ks bits).bk i := by unfold g25; rw [if_neg (Nat.lt_irrefl _)]
    have so := Fk.sl i (ctx k.2 (stF ks bits).ended (stF ks bits).place)
    rw [gi] at es
    walk_at "gn"
    refine pick_seen es fun sok w => ?_
    walk_at "gn"
    refine seen_of K es so w b01 ?_
    walk_at "gn"
    have W3 := W2.step (dx := dx) (t := seenS ((stF ks bits).bk i (ctx k.2 (stF ks bits).ended (stF ks bits).place)) b) hk hl
    rw [← gi, g25_succ hk, gi] at W3
    exact ⟨_, rfl, W3, X2.mut ⟨_, hl⟩, by omega⟩
  · rintro σ H2 ⟨u11, rfl, W2, X2, -⟩
    rw [List.length_map, sl, g25_all] at W2
    have st_s := stF_snoc ks bits b
    have eg : (stF ks (bits ++ [b])).bk = bkS ks (stF ks bits) b := by rw [st_s]; rfl
    have ewl : (stF ks (bits ++ [b])).ws = learnS (stF ks bits).ws (chancesF ks (stF ks bits)) b := by rw [st_s]; rfl
    rw [← eg] at W2
    rw [ewl] at q
    have kp : ∀ {y : Addr} {ys : List V}, H1 y = some (.lst ys) → H2 y = some (.lst ys) := fun e => X2.kp _ _ (fun ⟨e', he⟩ => W1.R.nl he e rfl) e
    have edc2 := kp edc1
    have ew2 := kp ew1
    have ec2 := kp ec1
    have ebl2 := kp ebl1
    walk_at "gn"
    refine ⟨w, dc, _, _, _, b, rfl, rfl, rfl, b01, ew2, edc2, Fk.mok, co, fun w3 H3 nw s3 ew3 => ?_⟩
    have W3 := W2.same s3
    have fw3 : ¬ Fp1 w3 := fun z => by
      obtain ⟨o, ho, _⟩ := W2.A.dom _ z
      rw [nw] at ho
      cases ho
    walk_at "gn"
    refine tail (s3 _ _ ec2) sgl pl fun c4 H4 s4 ec4 nc => ?_
    refine q w3 c4 Fp1 H4 _ (W3.same s4) (s4 _ _ ew3) fw3 ec4 ?_ (s4 _ _ (s3 _ _ ebl2)) fbl1
    rcases nc with z | z
    · rw [z]; exact fc1
    · exact fun y => by
        obtain ⟨o, ho, _⟩ := W3.A.dom _ y
        rw [z] at ho
        cases ho
  ) only [↓Bx.eq]
end
/-! k25: the law's loop over a text's decisions -/
section
variable (K : PySem.W.Frag)
theorem seen0 {a l d w t c bl : Addr} {u8 u9 u10 u11 : Option V} {b : Int} {bs : List Int} {H0 H : Hp} {Fp : Addr → Prop} {las : List Addr} {ks : List Lk} {xs : List NE} {bits : List Int} {n : Nat} {nx bk ct : St → Hp → Prop} {rt : VK} {E : XK}
    (W : W25 K H0 H a d Fp ks xs bits (stF ks bits).bk n) (L : LooksH H0 l las ks) (ok : LksOk ks) (hb : Bits bits) (hn : bits.length ≤ 700000) (hn6 : n ≤ 16000000) (b01 : 0 ≤ b ∧ b ≤ 1)
    (ew : H w = some (.lst ((stF ks bits).ws.map V.int))) (fw : ¬ Fp w) (ec : H c = some (.lst ((stF ks bits).ended.map V.int))) (fc : ¬ Fp c) (sgl : (stF ks bits).ended.length ≤ 1000) (ebl : H bl = some (.lst (bs.map V.int))) (fbl : ¬ Fp bl)
    (q : ∀ w' c' Fp' xs' H' u8 u9 u10 u11, W25 K H0 H' a d Fp' ks xs' (bits ++ [b]) (stF ks (bits ++ [b])).bk (n + 6) → H' w' = some (.lst ((stF ks (bits ++ [b])).ws.map V.int)) → ¬ Fp' w' → H' c' = some (.lst ((lawE (stF ks bits).ended (stF ks bits).place b).map V.int)) → ¬ Fp' c' → H' bl = some (.lst (bs.map V.int)) → ¬ Fp' bl →
      nx [some (.ref a), some (.ref l), some (.ref d), some (.ref w'), some (.ref t), some (.int (lawP (stF ks bits).place b)), some (.ref c'), some (.int b), u8, u9, u10, u11] H') :
    (tSeq (tAsg (tFun (sp_Lslots K) [] (fun _ => E) (tCons (tVar 1) (tCons (tVar 2) (tCons (tVar 6) (tCons (tVar 5) (tNil)))))) (gName 8)) (tSeq (tAsg (tLc (iList K (tVar 8)) (gName 11) (tYes) (tMth "chance" (orM (one (He.ga K "Even") (sp_Even_chance K)) (orM (one (He.ga K "Quick") (sp_Quick_chance K)) (one (He.ga K "Run") (sp_Run_chance K)))) (fun _ => E0) (tVar 11) (tNil)) [11]) (gName 9)) (tSeq (tIfS (tOr (tTest (tOp (rDiff K) (tMth "chances" (one (He.ga K "Foreteller") (sp_Foreteller_chances K)) (fun _ => E) (tVar 0) (tNil)) (tVar 9))) (tTest (tOp (rDiff K) (tMth "chance" (one (He.ga K "Foreteller") (sp_Foreteller_chance K)) (fun _ => E) (tVar 0) (tNil)) (tFun (sp_Lmixed K) [] (fun _ => E) (tCons (tVar 3) (tCons (tVar 9) (tNil))))))) (tRet (tC .non)) (tNext)) (tSeq (tIfS (tTest (tOp (rSame K) (tVar 5) (tC (.int 0)))) (tSeq (tAsg (tMth "signs" (one (He.ga K "Foreteller") (sp_Foreteller_signs K)) (fun _ => E) (tVar 0) (tNil)) (gName 10)) (tSeq (tIfS (tOr (tNot (tTru K (tCB (rIsi2 K) (tCons (tVar 10) (tCons (tC (.ty "list")) (tNil)))))) (tTest (tOp (rDiff K) (tVar 10) (tVar 6)))) (tRet (tC .non)) (tNext)) (tDrop (tBM K "list" (rAppend) (tVar 10) (tCons (tC (.int 7)) (tNil)))))) (tNext)) (tSeq (tDrop (tMth "see" (one (He.ga K "Foreteller") (sp_Foreteller_see K)) (fun _ => E) (tVar 0) (tCons (tVar 7) (tNil)))) (tSeq (tFor (iList K (tVar 8)) (gName 11) (tDrop (tMth "seen" (orM (one (He.ga K "Even") (sp_Even_seen K)) (orM (one (He.ga K "Quick") (sp_Quick_seen K)) (one (He.ga K "Run") (sp_Run_seen K)))) (fun _ => E) (tVar 11) (tCons (tVar 7) (tNil))))) (tSeq (tAsg (tFun (sp_Llearnt K) [] (fun _ => E) (tCons (tVar 3) (tCons (tVar 9) (tCons (tVar 7) (tNil))))) (gName 3)) (tIfS (tTest (tOp (iGt) (tVar 5) (tC (.int 127)))) (tSeq (tAsg (tOp (rPlus K) (tVar 6) (tLst (tCons (tOp (rMinus) (tOp (rPlus K) (tOp (rTimes) (tC (.int 2)) (tVar 5)) (tVar 7)) (tC (.int 256))) (tNil)))) (gName 6)) (tAsg (tC (.int 0)) (gName 5))) (tIfS (tTest (tOp (iGt) (tVar 5) (tC (.int 0)))) (tAsg (tOp (rPlus K) (tOp (rTimes) (tC (.int 2)) (tVar 5)) (tVar 7)) (gName 5)) (tAsg (tVar 7) (gName 5))))))))))) ⟨nx, rt, bk, ct⟩ [some (.ref a), some (.ref l), some (.ref d), some (.ref w), some (.ref t), some (.int (stF ks bits).place), some (.ref c), some (.int b), u8, u9, u10, u11] H := by
  refine Bx.out ?_
  simp (disch := with_unfolding_all
  have Fk := fokF ok hb
  have co := cokF Fk
  have l6 := ok.l6
  have q1 := fun {D dc : Addr} {u10 : Option V} {xs' : List NE} => (fun w' c' Fp' H' u11 => q w' c' Fp' xs' H' (some (.ref D)) (some (.ref dc)) u10 u11)
  have tail := fun {D dc : Addr} {ss : List Addr} {u10 u11 : Option V} {xs' : List NE} {H2 : Hp} => seen4 (K := K) (a := a) (l := l) (d := d) (w := w) (t := t) (c := c) (D := D) (dc := dc) (bl := bl) (u10 := u10) (u11 := u11) (b := b) (sg := (stF ks bits).ended) (bs := bs) (H0 := H0) (H := H2) (Fp := Fp) (ks := ks) (xs := xs') (bits := bits) (n := n + 6) (ss := ss) (nx := nx) (bk := bk) (ct := ct) (rt := rt) (E := E)
  generalize (tSeq (tDrop (tMth "see" (one (He.ga K "Foreteller") (sp_Foreteller_see K)) (fun _ => E) (tVar 0) (tCons (tVar 7) (tNil)))) (tSeq (tFor (iList K (tVar 8)) (gName 11) (tDrop (tMth "seen" (orM (one (He.ga K "Even") (sp_Even_seen K)) (orM (one (He.ga K "Quick") (sp_Quick_seen K)) (one (He.ga K "Run") (sp_Run_seen K)))) (fun _ => E) (tVar 11) (tCons (tVar 7) (tNil))))) (tSeq (tAsg (tFun (sp_Llearnt K) [] (fun _ => E) (tCons (tVar 3) (tCons (tVar 9) (tCons (tVar 7) (tNil))))) (gName 3)) (tIfS (tTest (tOp (iGt) (tVar 5) (tC (.int 127)))) (tSeq (tAsg (tOp (rPlus K) (tVar 6) (tLst (tCons (tOp (rMinus) (tOp (rPlus K) (tOp (rTimes) (tC (.int 2)) (tVar 5)) (tVar 7)) (tC (.int 256))) (tNil)))) (gName 6)) (tAsg (tC (.int 0)) (gName 5))) (tIfS (tTest (tOp (iGt) (tVar 5) (tC (.int 0)))) (tAsg (tOp (rPlus K) (tOp (rTimes) (tC (.int 2)) (tVar 5)) (tVar 7)) (gName 5)) (tAsg (tVar 7) (gName 5))))))) = R4 at tail ⊢
  walk_at "gn"
  refine ⟨l, d, c, las, ks, xs, _, n, _, _, rfl, rfl, rfl, rfl, L.same W.s, ok, W.R, hn6, ec, sgl, fun D ss xs' H1 nD X1 eD sl R1 old got => ?_⟩
  have W1 := W.slots X1 R1 old
  have fD : ¬ Fp D := fun z => by
    obtain ⟨o, ho, _⟩ := W.A.dom _ z
    rw [nD] at ho
    cases ho
  have kp : ∀ {y : Addr} {ys : List V}, H y = some (.lst ys) → H1 y = some (.lst ys) := fun e => X1.kp _ _ (W.R.dl e) e
  have ew1 := kp ew
  have ec1 := kp ec
  have ebl1 := kp ebl
  clear kp ew ec ebl X1 R1 old W nD
  walk_at "gn"
  refine lc_LN (sq_of eD) (by rw [List.length_map]; omega) (fun D2 i ys H2 => H1 D2 = none ∧ Same H1 H2 ∧ H2 D2 = some (.lst ys) ∧ ys = ((chancesF ks (stF ks bits)).take i).map V.int ∧ i ≤ ks.length) (fun D2 hD => ⟨hD, same_new (Same.refl _) hD, upd_same, rfl, Nat.zero_le _⟩) ?_ ?_ ?_
  · rintro D2 i ys H2 ⟨hD, s, eD2, rfl, hi⟩
    exact ⟨sq_of (s _ _ eD), eD2, by rw [List.length_map, List.length_take]; have := co.len; omega⟩
  · rintro D2 i v ys H2 Q2 hv ⟨hD, s, eD2, rfl, hi⟩ q2
    obtain ⟨x, hx, rfl⟩ := map_at hv
    have hi := (List.getElem?_eq_some_iff.mp hx).1
    have hk : ks[i]? = some (ks[i]'(by omega)) := List.getElem?_eq_getElem (by omega)
    generalize ks[i]'(by omega) = k at hk
    have hl := got i k x hk hx
    obtain ⟨dx, es⟩ := (W1.R.same s).som i k _ x hk hl
    have so := Fk.sl i (ctx k.2 (stF ks bits).ended (stF ks bits).place)
    walk_at "gn"
    refine pick_chance es fun sok w => ?_
    walk_at "gn"
    refine ⟨x, dx, _, rfl, es, so, w, ?_⟩
    refine q2 _ _ eD2 ⟨hD, same_mut s hD, upd_same, ?_, by omega⟩
    rw [List.take_add_one, chancesF_at hk, List.map_append]
    rfl
  · rintro dc ys H2 ⟨ndc, s2, edc, rfl, -⟩
    rw [List.length_map, List.take_of_length_le (by have := co.len; omega)] at edc
    have fdc : ¬ Fp dc := fun z => by
      obtain ⟨o, ho, _⟩ := W1.A.dom _ z
      rw [ndc] at ho
      cases ho
    have W2 := W1.same s2
    have eD2 := s2 _ _ eD
    have ew2 := s2 _ _ ew1
    have ec2 := s2 _ _ ec1
    have ebl2 := s2 _ _ ebl1
    clear W1 eD ew1 ec1 ebl1 ndc
    have tail := fun {u10 u11 : Option V} {H3 : Hp} (s : Same H2 H3) => tail (D := D) (dc := dc) (ss := ss) (u10 := u10) (u11 := u11) (xs' := xs') (H2 := H3) (W2.same s) ok hb hn b01 (s _ _ eD2) sl fD got (s _ _ edc) fdc (s _ _ ew2) fw (s _ _ ec2) fc sgl (s _ _ ebl2) fbl q1
    walk_at "gn"
    refine fore_one W2.A (fun _ _ _ _ _ _ => rfl) ?_
    walk_at "gn"
    refine ⟨a, Fp, ks, bits, rfl, W2.A, ok, hb, fun x1 H3 nx1 s3 ex1 => ?_⟩
    have W3 := W2.same s3
    have edc3 := s3 _ _ edc
    have ew3 := s3 _ _ ew2
    walk_at "gn"
    refine g_diffLI (sq_of ex1) (sq_of edc3) ?_
    rw [decide_eq_true rfl]
    walk_at "gn"
    refine fore_one W3.A (fun _ _ _ _ _ _ => rfl) ?_
    walk_at "gn"
    refine ⟨a, Fp, ks, bits, rfl, W3.A, ok, hb, fun H4 s4 => ?_⟩
    have W4 := W3.same s4
    have edc4 := s4 _ _ edc3
    have ew4 := s4 _ _ ew3
    have S4 := Same.trans s3 s4
    walk_at "gn"
    refine ⟨w, dc, _, _, _, rfl, rfl, ew4, edc4, Fk.mok, co, ?_⟩
    walk_at "gn"
    have ec4 := S4 _ _ ec2
    refine dif (fun c1 => ?_) fun c1 => ?_
    · walk_at "gn"
      refine fore_one W4.A (fun _ _ _ _ _ _ => rfl) ?_
      walk_at "gn"
      refine ⟨a, Fp, ks, bits, rfl, W4.A, fun x2 H5 nx2 s5 ex2 => ?_⟩
      have ec5 := s5 _ _ ec4
      walk_at "gn"
      refine g_isi (s := "") (tn := "list") (.base (.lst ex2)) (b := true) (by decide +kernel) ?_
      walk_at "gn"
      refine g_diffLI (sq_of ex2) (sq_of ec5) ?_
      rw [decide_eq_true rfl]
      walk_at "gn"
      exact tail (Same.trans S4 (same_mut s5 nx2))
    · walk_at "gn"
      exact tail S4
  ) only [↓Bx.eq]
theorem st_at25 {ks : List Lk} {b0 ns : List Int} (g0 : goF ([], 0) b0 = ([], 0)) (h : ∀ z ∈ ns, 0 ≤ z ∧ z ≤ 255) {j : Nat} (hj : j < (decOf ns).length) : (stF ks (b0 ++ (decOf ns).take j)).ended = ns.take (j / 9) ∧ 0 ≤ (stF ks (b0 ++ (decOf ns).take j)).place ∧ (j % 9 ≠ 0 → 0 < (stF ks (b0 ++ (decOf ns).take j)).place) ∧ (j % 9 = 0 → (stF ks (b0 ++ (decOf ns).take j)).place = 0) := by
  have e := goF_st ks (b0 ++ (decOf ns).take j)
  rw [goF_app, g0] at e
  obtain ⟨p, e2, p0, p1, p2⟩ := go_at2 h hj
  rw [e2] at e
  have e1 := congrArg Prod.fst e
  have e3 := congrArg Prod.snd e
  have e1 : (stF ks (b0 ++ (decOf ns).take j)).ended = ns.take (j / 9) := e1
  have e3 : (stF ks (b0 ++ (decOf ns).take j)).place = p := e3
  rw [e3]
  exact ⟨e1, p0, p2, p1⟩
/-- the bit at a sign's begin -/
theorem bit_at25 {ns : List Int} {j : Nat} {b : Int} (hb : (decOf ns)[j]? = some b) (h9 : j % 9 = 0) (hj : j < 9 * ns.length) : b = 1 := by
  have c : j / 9 < ns.length := by omega
  have hz : ns[j / 9]? = some ns[j / 9] := List.getElem?_eq_getElem c
  have d := dec_drop hz
  have e : (decOf ns)[j]? = ((decOf ns).drop (9 * (j / 9)))[0]? := by
    rw [List.getElem?_drop]
    congr 1
    omega
  rw [hb, d] at e
  exact Option.some.inj e
/-- signs and node as the law keeps them, one decision on -/
theorem step25 {ks : List Lk} {b0 ns : List Int} (g0 : goF ([], 0) b0 = ([], 0)) (h : ∀ z ∈ ns, 0 ≤ z ∧ z ≤ 255) {j : Nat} {b : Int} (hb : (decOf ns)[j]? = some b) (b01 : 0 ≤ b ∧ b ≤ 1) :
    lawP (stF ks (b0 ++ (decOf ns).take j)).place b = (stF ks (b0 ++ (decOf ns).take (j + 1))).place ∧ (j + 1 < (decOf ns).length → lawE (stF ks (b0 ++ (decOf ns).take j)).ended (stF ks (b0 ++ (decOf ns).take j)).place b = (stF ks (b0 ++ (decOf ns).take (j + 1))).ended) ∧ (j + 1 = (decOf ns).length → lawE (stF ks (b0 ++ (decOf ns).take j)).ended (stF ks (b0 ++ (decOf ns).take j)).place b = ns) := by
  have hj := (List.getElem?_eq_some_iff.mp hb).1
  have hl := dec_len ns
  obtain ⟨e1, p0, p1, p2⟩ := st_at25 (ks := ks) g0 h hj
  have e : b0 ++ (decOf ns).take (j + 1) = (b0 ++ (decOf ns).take j) ++ [b] := by rw [take_snoc hb, List.append_assoc]
  rw [e, stF_snoc]
  generalize stF ks (b0 ++ (decOf ns).take j) = st at e1 p0 p1 p2
  refine ⟨lawP_go p0 b01, fun c => lawE_go p0 b01 ?_, fun c => ?_⟩
  · by_cases z : j % 9 = 0
    · exact .inr (bit_at25 hb z (by omega))
    · exact .inl (by have := p1 z; omega)
  · have z := p2 (by omega)
    unfold lawE
    rw [if_neg (by omega), e1, List.take_of_length_le (by omega)]
theorem bits_small25 {b0 : List Int} (h : Bits b0) (ns : List Int) : Bits (b0 ++ decOf ns) := h.app (fun z hz => dec_bits z hz)
def F_Lseen (K : PySem.W.Frag) : V → V → V → V → V → Hp → VK → XK → Prop := fun x y z u v H Q _ => ∃ (a l d w t : Addr) (Fp : Addr → Prop) (las : List Addr) (ks : List Lk) (xs : List NE) (bits : List Int) (n : Nat) (ns : List Int) (H0 : Hp), x = .ref a ∧ y = .ref l ∧ z = .ref d ∧ u = .ref w ∧ v = .ref t ∧
  W25 K H0 H a d Fp ks xs bits (stF ks bits).bk n ∧ LooksH H0 l las ks ∧ LksOk ks ∧ Bits bits ∧ goF ([], 0) bits = ([], 0) ∧ H0 t = some (.lst (ns.map V.int)) ∧ TextOk 1000 ns ∧ bits.length ≤ 600000 ∧ n ≤ 15000000 ∧ H w = some (.lst ((stF ks bits).ws.map V.int)) ∧ ¬ Fp w ∧
  ∀ (w' : Addr) (Fp' : Addr → Prop) (xs' : List NE) (H' : Hp), W25 K H0 H' a d Fp' ks xs' (bits ++ decOf ns) (stF ks (bits ++ decOf ns)).bk (n + 6 * (decOf ns).length) → H' w' = some (.lst ((stF ks (bits ++ decOf ns)).ws.map V.int)) → ¬ Fp' w' → Q (.ref w') H'
abbrev sp_Lseen (K : PySem.W.Frag) : Sp := on5 (F_Lseen K)
theorem pure_Lseen {x y z u v : V} {H : Hp} {Q : VK} {E : XK} (h : F_Lseen K x y z u v H Q E) : t_Lseen K E ⟨fun _ H' => Q .non H', Q, fun _ _ => False, fun _ _ => False⟩ [some x, some y, some z, some u, some v, none, none, none, none, none, none, none] H := by
  refine Bx.out ?_
  simp (disch := with_unfolding_all
  obtain ⟨a, l, d, w, t, Fp, las, ks, xs, bits, n, ns, H0, rfl, rfl, rfl, rfl, rfl, W, L, ok, hb, g0, et, tok, hn, hn6, ew, fw, q⟩ := h
  have hl := dec_len ns
  have tl := tok.len
  have et1 := W.s _ _ et
  unfold t_Lseen
  have body := fun {w c bl : Addr} {u8 u9 u10 u11 : Option V} {b : Int} {H : Hp} {Fp : Addr → Prop} {xs : List NE} {bits : List Int} {n : Nat} {nx bk ct : St → Hp → Prop} {rt : VK} => seen0 (K := K) (a := a) (l := l) (d := d) (w := w) (t := t) (c := c) (bl := bl) (u8 := u8) (u9 := u9) (u10 := u10) (u11 := u11) (b := b) (bs := decOf ns) (H0 := H0) (H := H) (Fp := Fp) (las := las) (ks := ks) (xs := xs) (bits := bits) (n := n) (nx := nx) (bk := bk) (ct := ct) (rt := rt) (E := E)
  generalize (tSeq (tAsg (tFun (sp_Lslots K) [] (fun _ => E) (tCons (tVar 1) (tCons (tVar 2) (tCons (tVar 6) (tCons (tVar 5) (tNil)))))) (gName 8)) (tSeq (tAsg (tLc (iList K (tVar 8)) (gName 11) (tYes) (tMth "chance" (orM (one (He.ga K "Even") (sp_Even_chance K)) (orM (one (He.ga K "Quick") (sp_Quick_chance K)) (one (He.ga K "Run") (sp_Run_chance K)))) (fun _ => E0) (tVar 11) (tNil)) [11]) (gName 9)) (tSeq (tIfS (tOr (tTest (tOp (rDiff K) (tMth "chances" (one (He.ga K "Foreteller") (sp_Foreteller_chances K)) (fun _ => E) (tVar 0) (tNil)) (tVar 9))) (tTest (tOp (rDiff K) (tMth "chance" (one (He.ga K "Foreteller") (sp_Foreteller_chance K)) (fun _ => E) (tVar 0) (tNil)) (tFun (sp_Lmixed K) [] (fun _ => E) (tCons (tVar 3) (tCons (tVar 9) (tNil))))))) (tRet (tC .non)) (tNext)) (tSeq (tIfS (tTest (tOp (rSame K) (tVar 5) (tC (.int 0)))) (tSeq (tAsg (tMth "signs" (one (He.ga K "Foreteller") (sp_Foreteller_signs K)) (fun _ => E) (tVar 0) (tNil)) (gName 10)) (tSeq (tIfS (tOr (tNot (tTru K (tCB (rIsi2 K) (tCons (tVar 10) (tCons (tC (.ty "list")) (tNil)))))) (tTest (tOp (rDiff K) (tVar 10) (tVar 6)))) (tRet (tC .non)) (tNext)) (tDrop (tBM K "list" (rAppend) (tVar 10) (tCons (tC (.int 7)) (tNil)))))) (tNext)) (tSeq (tDrop (tMth "see" (one (He.ga K "Foreteller") (sp_Foreteller_see K)) (fun _ => E) (tVar 0) (tCons (tVar 7) (tNil)))) (tSeq (tFor (iList K (tVar 8)) (gName 11) (tDrop (tMth "seen" (orM (one (He.ga K "Even") (sp_Even_seen K)) (orM (one (He.ga K "Quick") (sp_Quick_seen K)) (one (He.ga K "Run") (sp_Run_seen K)))) (fun _ => E) (tVar 11) (tCons (tVar 7) (tNil))))) (tSeq (tAsg (tFun (sp_Llearnt K) [] (fun _ => E) (tCons (tVar 3) (tCons (tVar 9) (tCons (tVar 7) (tNil))))) (gName 3)) (tIfS (tTest (tOp (iGt) (tVar 5) (tC (.int 127)))) (tSeq (tAsg (tOp (rPlus K) (tVar 6) (tLst (tCons (tOp (rMinus) (tOp (rPlus K) (tOp (rTimes) (tC (.int 2)) (tVar 5)) (tVar 7)) (tC (.int 256))) (tNil)))) (gName 6)) (tAsg (tC (.int 0)) (gName 5))) (tIfS (tTest (tOp (iGt) (tVar 5) (tC (.int 0)))) (tAsg (tOp (rPlus K) (tOp (rTimes) (tC (.int 2)) (tVar 5)) (tVar 7)) (gName 5)) (tAsg (tVar 7) (gName 5))))))))))) = B at body ⊢
  walk_at "gn"
  rename_i c nc
  have fc : ¬ Fp c := fun z => by
    obtain ⟨o, ho, _⟩ := W.A.dom _ z
    rw [nc] at ho
    cases ho
  have sc := same_new (u := .lst []) (Same.refl H) nc
  have ec : (upd H c (.lst [])) c = some (.lst []) := upd_same
  generalize upd H c (.lst []) = H1 at sc ec ⊢
  have W1 := W.same sc
  have ew1 := sc _ _ ew
  have et2 := sc _ _ et1
  clear W ew et1 sc nc
  walk_at "gn"
  refine ⟨t, ns, rfl, et2, tl, fun bl H2 nbl s2 ebl => ?_⟩
  have fbl : ¬ Fp bl := fun z => by
    obtain ⟨o, ho, _⟩ := W1.A.dom _ z
    rw [nbl] at ho
    cases ho
  have W2 := W1.same s2
  have ew2 := s2 _ _ ew1
  have ec2 := s2 _ _ ec
  clear W1 ew1 et2 s2 ec nbl
  walk_at "gn"
  obtain ⟨e0, -, -, p0⟩ := st_at25 (ks := ks) (ns := ns) (j := 0) g0 tok.all (by omega)
  rw [List.take_zero, List.append_nil] at e0 p0
  have e0 : (stF ks bits).ended = [] := e0
  have p0 := p0 rfl
  refine for_LI (sq_of ebl) (fun i σ H3 => ∃ (w' c' : Addr) (Fp' : Addr → Prop) (xs' : List NE) (sg : List Int) (nd : Int) (u7 u8 u9 u10 u11 : Option V), σ = [some (.ref a), some (.ref l), some (.ref d), some (.ref w'), some (.ref t), some (.int nd), some (.ref c'), u7, u8, u9, u10, u11] ∧
    W25 K H0 H3 a d Fp' ks xs' (bits ++ (decOf ns).take i) (stF ks (bits ++ (decOf ns).take i)).bk (n + 6 * i) ∧ H3 w' = some (.lst ((stF ks (bits ++ (decOf ns).take i)).ws.map V.int)) ∧ ¬ Fp' w' ∧ H3 c' = some (.lst (sg.map V.int)) ∧ ¬ Fp' c' ∧ H3 bl = some (.lst ((decOf ns).map V.int)) ∧ ¬ Fp' bl ∧
    nd = (stF ks (bits ++ (decOf ns).take i)).place ∧ (i < (decOf ns).length → sg = (stF ks (bits ++ (decOf ns).take i)).ended) ∧ (i = (decOf ns).length → sg = ns)) ?_ ?_ ?_ ?_
  · refine ⟨w, c, Fp, xs, [], 0, _, _, _, _, _, rfl, ?_⟩
    rw [List.take_zero, List.append_nil]
    exact ⟨W2, ew2, fw, ec2, fc, ebl, fbl, p0.symm, fun _ => e0.symm, fun z => by omega⟩
  · rintro i σ H3 ⟨w', c', Fp', xs', sg, nd, u7, u8, u9, u10, u11, rfl, W3, ew3, fw3, ec3, fc3, eb3, -⟩
    exact sq_of eb3
  · clear W2 ew2 fw ec2 fc ebl fbl p0 e0
    rintro i b σ H3 hbi ⟨w', c', Fp', xs', sg, nd, u7, u8, u9, u10, u11, rfl, W3, ew3, fw3, ec3, fc3, eb3, fb3, rfl, es, -⟩
    have hi := (List.getElem?_eq_some_iff.mp hbi).1
    have b01 := dec_bits b (List.mem_of_getElem? hbi)
    obtain ⟨s1, s2, s3⟩ := step25 (ks := ks) g0 tok.all hbi b01
    have es := es hi
    subst es
    have hbd : Bits (decOf ns) := fun z hz => dec_bits z hz
    have hbt : Bits (bits ++ (decOf ns).take i) := hb.app (hbd.take i)
    have hl2 : (bits ++ (decOf ns).take i).length ≤ 700000 := by rw [List.length_append, List.length_take]; omega
    have en : (stF ks (bits ++ (decOf ns).take i)).ended.length ≤ 1000 := by rw [(st_at25 (ks := ks) g0 tok.all hi).1, List.length_take]; omega
    refine body W3 L ok hbt hl2 (by omega) b01 ew3 fw3 ec3 fc3 en eb3 fb3 fun w4 c4 Fp4 xs4 H4 u8 u9 u10 u11 W4 ew4 fw4 ec4 fc4 eb4 fb4 => ?_
    have e : bits ++ (decOf ns).take (i + 1) = (bits ++ (decOf ns).take i) ++ [b] := by rw [take_snoc hbi, List.append_assoc]
    rw [← e] at W4 ew4
    refine ⟨w4, c4, Fp4, xs4, lawE (stF ks (bits ++ (decOf ns).take i)).ended (stF ks (bits ++ (decOf ns).take i)).place b, lawP (stF ks (bits ++ (decOf ns).take i)).place b, some (.int b), u8, u9, u10, u11, rfl, ?_⟩
    exact ⟨by rw [show n + 6 * (i + 1) = n + 6 * i + 6 by omega]; exact W4, ew4, fw4, ec4, fc4, eb4, fb4, s1, s2, s3⟩
  · clear W2 ew2 fw ec2 fc ebl fbl p0 e0
    rintro σ H3 ⟨w', c', Fp', xs', sg, nd, u7, u8, u9, u10, u11, rfl, W3, ew3, fw3, ec3, fc3, eb3, fb3, rfl, -, es⟩
    have es := es rfl
    subst es
    rw [List.take_length] at W3 ew3
    have et3 := W3.s _ _ et
    walk_at "gn"
    refine g_diffLI (sq_of ec3) (sq_of et3) ?_
    rw [decide_eq_true rfl]
    walk_at "gn"
    refine fore_one W3.A (fun _ _ _ _ _ _ => rfl) ?_
    walk_at "gn"
    refine ⟨a, Fp', ks, _, rfl, W3.A, fun x1 H4 nx1 s4 ex1 => ?_⟩
    have ew4 := s4 _ _ ew3
    walk_at "gn"
    refine g_diffLI (sq_of ex1) (sq_of ew4) ?_
    rw [decide_eq_true rfl]
    walk_at "gn"
    exact q w' Fp' xs' H4 (W3.same s4) ew4 fw3
  ) only [↓Bx.eq]
end
/-! k25: the texts one behind another, and the law -/
open Classical in
/-- what stands and is none of theirs -/
noncomputable def base25 (H : Hp) (Fp : Addr → Prop) (d : Addr) : Hp := fun x => if Fp x ∨ x = d then none else H x
section
variable {H : Hp} {Fp : Addr → Prop} {d : Addr}
theorem base_same : Same (base25 H Fp d) H := fun b o e => by
  unfold base25 at e
  split at e
  · cases e
  · exact e
theorem base_at {x : Addr} {o : HO} (h : H x = some o) (f : ¬ Fp x) (n : x ≠ d) : base25 H Fp d x = some o := by
  unfold base25
  rw [if_neg (not_or.mpr ⟨f, n⟩)]
  exact h
theorem base_f {x : Addr} (h : Fp x) : base25 H Fp d x = none := by
  unfold base25
  rw [if_pos (.inl h)]
theorem base_d : base25 H Fp d d = none := by
  unfold base25
  rw [if_pos (.inr rfl)]
end
theorem w25_new {K : PySem.W.Frag} {H : Hp} {a d : Addr} {Fp : Addr → Prop} {ks : List Lk} (A : ForAt K H a Fp ks []) (ed : H d = some (dN d [])) (fd : ¬ Fp d) : W25 K (base25 H Fp d) H a d Fp ks [] [] (stF ks []).bk 0 := by
  refine ⟨base_same, A, ⟨⟨ed, (fun x hx => nomatch hx)⟩, Nat.le_refl _, fun i k c hk _ => ?_, (fun i k c s _ z => nomatch z), (fun e e' s z => nomatch z), (fun e s z => nomatch z)⟩, fun x hx z => fd (by rw [← z]; exact hx), (fun x e _ z => nomatch z), fun x hx => base_f hx, base_d, (fun e s z => nomatch z)⟩
  show new0 (ks.getD i ("", [])).1 = new0 k.1
  rw [List.getD_eq_getElem?_getD, hk]
  rfl
section
variable (K : PySem.W.Frag)
def F_law (K : PySem.W.Frag) : V → Hp → VK → XK → Prop := fun x H Q _ => ∃ (a : Addr) (ns : List Int), x = .ref a ∧ SqL K H a (ns.map V.int) ∧ ns.length ≤ 63 ∧ ∀ H', Q (.bl true) H'
abbrev sp_law (K : PySem.W.Frag) : Sp := on1 (F_law K)
def t_law (K : PySem.W.Frag) (E : XK) : TS :=
  tSeq (tAsg (tFun (sp_Llooks K) [] (fun _ => E) (tCons (tVar 0) (tNil))) (gName 1))
  (tSeq (tAsg (tOp (rFloor) (tFun (sp_Lcell_at K) [] (fun _ => E) (tCons (tVar 0) (tCons (tC (.int 6)) (tNil)))) (tC (.int 210))) (gName 2))
  (tSeq (tAsg (tC (.int 5)) (gName 3))
  (tSeq (tIfS (tTest (tOp (rSame K) (tOp (rRest) (tVar 2) (tC (.int 3))) (tC (.int 1)))) (tSeq (tAsg (tTup (tCons (tOp (rIx K) (tOp (rIx K) (tVar 1) (tC (.int 0))) (tC (.int 0))) (tCons (tOp (rIx K) (tLst (tCons (tTup (tCons (tC (.int 6)) (tNil))) (tCons (tTup (tCons (tC (.int 8)) (tNil))) (tCons (tTup (tCons (tC (.int 5)) (tCons (tC (.int 7)) (tNil)))) (tCons (tTup (tCons (tC (.int 7)) (tNil))) (tCons (tTup (tCons (tC (.int 1)) (tCons (tC (.int 6)) (tCons (tC (.int 8)) (tNil))))) (tCons (tTup (tCons (tC (.int 5)) (tCons (tC (.int 6)) (tCons (tC (.int 7)) (tCons (tC (.int 8)) (tNil)))))) (tNil)))))))) (tOp (rRest) (tOp (rFloor) (tVar 2) (tC (.int 3))) (tC (.int 6)))) (tNil)))) (gName 4))
  (tSeq (tAsg (tSl (rSlL K) (tLst (tCons (tVar 4) (tCons (tOp (rIx K) (tVar 1) (tC (.int 0))) (tNil)))) (tNoPart) (tPart (tOp (rPlus K) (tC (.int 1)) (tOp (rRest) (tOp (rFloor) (tVar 2) (tC (.int 72))) (tC (.int 2)))))) (gName 1))
  (tAsg (tOp (rIx K) (tLst (tCons (tC (.int 14)) (tCons (tC (.int 55)) (tNil)))) (tOp (rRest) (tOp (rFloor) (tVar 2) (tC (.int 36))) (tC (.int 2)))) (gName 3)))) (tNext))
  (tSeq (tIfS (tTest (tOp (rSame K) (tOp (rRest) (tVar 2) (tC (.int 3))) (tC (.int 2)))) (tAsg (tSl (rSlL K) (tVar 1) (tNoPart) (tPart (tC (.int 2)))) (gName 1)) (tNext))
  (tSeq (tAsg (tCB (rLeast K) (tCons (tVar 3) (tCons (tCB (rGreatest K) (tCons (tC (.int 1)) (tCons (tOp (rMinus) (tCB (rLength K) (tCons (tVar 0) (tNil))) (tC (.int 8))) (tNil)))) (tNil)))) (gName 5))
  (tSeq (tAsg (tOp (rRest) (tOp (rFloor) (tFun (sp_Lcell_at K) [] (fun _ => E) (tCons (tVar 0) (tCons (tC (.int 6)) (tNil)))) (tC (.int 5))) (tOp (rPlus K) (tVar 5) (tC (.int 1)))) (gName 6))
  (tSeq (tIfS (tAnd (tTest (tOp (rSame K) (tOp (rRest) (tVar 2) (tC (.int 3))) (tC (.int 1)))) (tTest (tOp (rSame K) (tOp (rRest) (tOp (rFloor) (tVar 2) (tC (.int 18))) (tC (.int 2))) (tC (.int 0))))) (tAsg (tC (.int 0)) (gName 6)) (tNext))
  (tSeq (tAsg (tOp (rPlus K) (tVar 6) (tOp (rRest) (tOp (rFloor) (tFun (sp_Lcell_at K) [] (fun _ => E) (tCons (tVar 0) (tCons (tC (.int 6)) (tNil)))) (tC (.int 30))) (tOp (rPlus K) (tOp (rMinus) (tVar 5) (tVar 6)) (tC (.int 1))))) (gName 7))
  (tSeq (tIfS (tAnd (tTest (tOp (rSame K) (tOp (rRest) (tVar 2) (tC (.int 3))) (tC (.int 1)))) (tTest (tOp (rSame K) (tOp (rRest) (tOp (rFloor) (tVar 2) (tC (.int 18))) (tC (.int 2))) (tC (.int 0))))) (tAsg (tC (.int 0)) (gName 7)) (tNext))
  (tSeq (tAsg (tFun (sp_Ltext K) [] (fun _ => E) (tCons (tVar 0) (tCons (tC (.int 8)) (tCons (tVar 5) (tNil))))) (gName 8))
  (tSeq (tIfS (tTest (tOp (rSame K) (tOp (rRest) (tVar 2) (tC (.int 48))) (tC (.int 1)))) (tSeq (tPar3 1 6 7 (tCons (tSl (rSlL K) (tVar 1) (tNoPart) (tPart (tC (.int 1)))) (tCons (tC (.int 0)) (tCons (tC (.int 0)) (tNil)))))
  (tAsg (tSl (rSlL K) (tOp (rTimes) (tFun (sp_Ltext K) [] (fun _ => E) (tCons (tVar 0) (tCons (tC (.int 8)) (tCons (tC (.int 35)) (tNil))))) (tC (.int 2))) (tNoPart) (tPart (tOp (rPlus K) (tC (.int 66)) (tOp (rRest) (tOp (rFloor) (tVar 2) (tC (.int 48))) (tC (.int 5)))))) (gName 8))) (tNext))
  (tSeq (tAsg (tNew (He.ga K "Foreteller") (sp_Foreteller_init K) [] (fun _ => E) (tCons (tCB (rListOf K) (tCons (tVar 1) (tNil))) (tNil))) (gName 9))
  (tSeq (tAsg (tDNewN) (gName 10))
  (tSeq (tAsg (tOp (rTimes) (tLst (tCons (tOp (rLsh) (tC (.int 1)) (tC (.int 40))) (tNil))) (tCB (rLength K) (tCons (tVar 1) (tNil)))) (gName 11))
  (tSeq (tAsg (tLst (tCons (tSl (rSlL K) (tVar 8) (tNoPart) (tPart (tVar 6))) (tCons (tSl (rSlL K) (tVar 8) (tPart (tVar 6)) (tPart (tVar 7))) (tCons (tSl (rSlL K) (tVar 8) (tPart (tVar 7)) (tNoPart)) (tNil))))) (gName 12))
  (tSeq (tIfS (tTest (tOp (rSame K) (tOp (rRest) (tVar 2) (tC (.int 3))) (tC (.int 2)))) (tAsg (tOp (rPlus K) (tVar 12) (tOp (rTimes) (tLst (tCons (tLst (tNil)) (tNil))) (tC (.int 300)))) (gName 12)) (tNext))
  (tSeq (tFor (iList K (tVar 12)) (gName 13) (tSeq (tAsg (tFun (sp_Lseen K) [] (fun _ => E) (tCons (tVar 9) (tCons (tVar 1) (tCons (tVar 10) (tCons (tVar 11) (tCons (tVar 13) (tNil))))))) (gName 11))
  (tIfS (tTest (tOp (rIsNo) (tVar 11) (tC .non))) (tRet (tC (.bl false))) (tNext))))
  (tRet (tAndV (tOp (rSame K) (tMth "node" (one (He.ga K "Foreteller") (sp_Foreteller_node K)) (fun _ => E) (tVar 9) (tNil)) (tC (.int 0))) (tOp (rSame K) (tMth "signs" (one (He.ga K "Foreteller") (sp_Foreteller_signs K)) (fun _ => E) (tVar 9) (tNil)) (tLst (tNil))))))))))))))))))))))
theorem law17 {sc l sg a d w tx : Addr} {u2 u3 u4 u5 u6 u7 u13 : Option V} {H : Hp} {Fp : Addr → Prop} {las tas : List Addr} {ks : List Lk} {ts : List (List Int)} {nx bk ct : St → Hp → Prop} {Q : VK} {E : XK}
    (A : ForAt K H a Fp ks []) (ed : H d = some (dN d [])) (fd : ¬ Fp d) (L : LooksH H l las ks) (fl : ¬ Fp l) (ok : LksOk ks) (T : TextsH H tx tas ts) (ft : ¬ Fp tx) (fts : ∀ x ∈ tas, ¬ Fp x) (tok : TsOk ts) (small : (dB ts).length ≤ 600000)
    (ew : H w = some (.lst ((List.replicate ks.length (1099511627776 : Int)).map V.int))) (fw : ¬ Fp w) (q : ∀ H', Q (.bl true) H') :
    (tSeq (tFor (iList K (tVar 12)) (gName 13) (tSeq (tAsg (tFun (sp_Lseen K) [] (fun _ => E) (tCons (tVar 9) (tCons (tVar 1) (tCons (tVar 10) (tCons (tVar 11) (tCons (tVar 13) (tNil))))))) (gName 11)) (tIfS (tTest (tOp (rIsNo) (tVar 11) (tC .non))) (tRet (tC (.bl false))) (tNext)))) (tRet (tAndV (tOp (rSame K) (tMth "node" (one (He.ga K "Foreteller") (sp_Foreteller_node K)) (fun _ => E) (tVar 9) (tNil)) (tC (.int 0))) (tOp (rSame K) (tMth "signs" (one (He.ga K "Foreteller") (sp_Foreteller_signs K)) (fun _ => E) (tVar 9) (tNil)) (tLst (tNil)))))) ⟨nx, Q, bk, ct⟩ [some (.ref sc), some (.ref l), u2, u3, u4, u5, u6, u7, some (.ref sg), some (.ref a), some (.ref d), some (.ref w), some (.ref tx), u13] H := by
  refine Bx.out ?_
  simp (disch := with_unfolding_all
  have W := w25_new A ed fd
  have nl : ∀ {x : Addr} {ys : List V}, H x = some (.lst ys) → x ≠ d := fun e z => by rw [z, ed] at e; cases e
  have nt : ∀ {x : Addr} {ys : List V}, H x = some (.tup ys) → x ≠ d := fun e z => by rw [z, ed] at e; cases e
  have L0 : LooksH (base25 H Fp d) l las ks := ⟨base_at L.lst fl (nl L.lst), L.len, fun i x k hx hk => by
    obtain ⟨b, h1, h2⟩ := L.at_ i x k hx hk
    exact ⟨b, base_at h1 (A.nt _ _ h1) (nt h1), base_at h2 (A.nt _ _ h2) (nt h2)⟩⟩
  have T0 : TextsH (base25 H Fp d) tx tas ts := ⟨base_at T.lst ft (nl T.lst), T.len, fun i x t hx ht => by
    have h := T.at_ i x t hx ht
    exact base_at h (fts _ (List.mem_of_getElem? hx)) (nl h)⟩
  generalize base25 H Fp d = H0 at W L0 T0
  clear A ed fd L fl T ft fts nl nt
  have T1 := T0.same W.s
  have tl := T0.len
  walk_at "gn"
  refine for_L (sq_of T1.lst) (fun i σ H1 => ∃ (w' : Addr) (Fp' : Addr → Prop) (xs' : List NE) (u13 : Option V), σ = [some (.ref sc), some (.ref l), u2, u3, u4, u5, u6, u7, some (.ref sg), some (.ref a), some (.ref d), some (.ref w'), some (.ref tx), u13] ∧
    W25 K H0 H1 a d Fp' ks xs' (dB (ts.take i)) (stF ks (dB (ts.take i))).bk (6 * (dB (ts.take i)).length) ∧ H1 w' = some (.lst ((stF ks (dB (ts.take i))).ws.map V.int)) ∧ ¬ Fp' w') ?_ ?_ ?_ ?_
  · exact ⟨w, Fp, [], _, rfl, W, ew, fw⟩
  · rintro i σ H1 ⟨w', Fp', xs', u13, rfl, W1, -⟩
    exact sq_of (T0.same W1.s).lst
  · clear W ew fw T1
    rintro i v σ H1 hv ⟨w', Fp', xs', u13, rfl, W1, ew1, fw1⟩
    obtain ⟨t, ht, rfl⟩ := map_at hv
    have hi := (List.getElem?_eq_some_iff.mp ht).1
    have hn : ts[i]? = some (ts[i]'(by omega)) := List.getElem?_eq_getElem (by omega)
    generalize ts[i]'(by omega) = ns at hn
    have et := T0.at_ i t ns ht hn
    have tk := tok.all ns (List.mem_of_getElem? hn)
    have lt := dB_take ts i
    have g0 : goF ([], 0) (dB (ts.take i)) = ([], 0) := go_dB ⟨by have := tok.len; rw [List.length_take]; omega, fun u hu => tok.all u (List.mem_of_mem_take hu)⟩
    have st := dB_step hn
    walk_at "gn"
    refine ⟨_, _, _, _, _, rfl, a, l, d, w', t, Fp', las, ks, xs', _, _, ns, H0, rfl, rfl, rfl, rfl, rfl, W1, L0, ok, dB_bits _, g0, et, tk, by omega, by omega, ew1, fw1, fun w2 Fp2 xs2 H2 W2 ew2 fw2 => ?_⟩
    rw [← st] at W2 ew2
    walk_at "gn"
    refine ⟨w2, Fp2, xs2, _, rfl, ?_, ew2, fw2⟩
    rw [st, List.length_append, Nat.mul_add]
    rw [← st]
    exact W2
  · clear W ew fw T1
    rintro σ H1 ⟨w', Fp', xs', u13, rfl, W1, ew1, fw1⟩
    rw [List.length_map, List.take_of_length_le (by omega)] at W1
    have e := goF_st ks (dB ts)
    rw [go_dB tok] at e
    have e1 : (stF ks (dB ts)).ended = [] := congrArg Prod.fst e
    have e2 : (stF ks (dB ts)).place = 0 := congrArg Prod.snd e
    walk_at "gn"
    refine fore_one W1.A (fun _ _ _ _ _ _ => rfl) ?_
    walk_at "gn"
    refine ⟨a, Fp', ks, _, rfl, W1.A, ?_⟩
    rw [e2]
    walk_at "gn"
    refine fore_one W1.A (fun _ _ _ _ _ _ => rfl) ?_
    walk_at "gn"
    refine ⟨a, Fp', ks, _, rfl, W1.A, fun x1 H2 nx1 s2 ex1 => ?_⟩
    rw [e1] at ex1
    walk_at "gn"
    rename_i p2 np2
    refine g_sameLI (ns := []) (ms := []) (sq_of (lk_new ex1 np2)) (sq_of upd_same) ?_
    exact q _
  ) only [↓Bx.eq]
theorem rep1ref {n : Nat} {b : Addr} : (List.replicate n [V.ref b]).flatten = (List.replicate n b).map V.ref := by
  rw [List.map_replicate]
  induction n with
  | zero => rfl
  | succ n ih => rw [List.replicate_succ, List.flatten_cons, ih]; rfl
theorem dB_nils (n : Nat) : (dB (List.replicate n [])).length = n := by
  induction n with
  | zero => rfl
  | succ n ih =>
    have e : dB ([] :: List.replicate n []) = decOf [] ++ dB (List.replicate n []) := rfl
    rw [List.replicate_succ, e, List.length_append, ih]
    show 1 + n = n + 1
    omega
theorem dB_app (a b : List (List Int)) : dB (a ++ b) = dB a ++ dB b := by unfold dB; rw [List.flatMap_append]
theorem law16 {sc l sg a d w tx : Addr} {way : Int} {u3 u4 u5 u6 u7 u13 : Option V} {H : Hp} {Fp : Addr → Prop} {las tas : List Addr} {ks : List Lk} {ts : List (List Int)} {nx bk ct : St → Hp → Prop} {Q : VK} {E : XK}
    (A : ForAt K H a Fp ks []) (ed : H d = some (dN d [])) (fd : ¬ Fp d) (L : LooksH H l las ks) (fl : ¬ Fp l) (ok : LksOk ks) (T : TextsH H tx tas ts) (ft : ¬ Fp tx) (fts : ∀ x ∈ tas, ¬ Fp x) (t3 : ts.length ≤ 3) (tok : ∀ t ∈ ts, TextOk 1000 t) (small : (dB ts).length ≤ 50000)
    (ew : H w = some (.lst ((List.replicate ks.length (1099511627776 : Int)).map V.int))) (fw : ¬ Fp w) (q : ∀ H', Q (.bl true) H') :
    (tSeq (tIfS (tTest (tOp (rSame K) (tOp (rRest) (tVar 2) (tC (.int 3))) (tC (.int 2)))) (tAsg (tOp (rPlus K) (tVar 12) (tOp (rTimes) (tLst (tCons (tLst (tNil)) (tNil))) (tC (.int 300)))) (gName 12)) (tNext)) (tSeq (tFor (iList K (tVar 12)) (gName 13) (tSeq (tAsg (tFun (sp_Lseen K) [] (fun _ => E) (tCons (tVar 9) (tCons (tVar 1) (tCons (tVar 10) (tCons (tVar 11) (tCons (tVar 13) (tNil))))))) (gName 11)) (tIfS (tTest (tOp (rIsNo) (tVar 11) (tC .non))) (tRet (tC (.bl false))) (tNext)))) (tRet (tAndV (tOp (rSame K) (tMth "node" (one (He.ga K "Foreteller") (sp_Foreteller_node K)) (fun _ => E) (tVar 9) (tNil)) (tC (.int 0))) (tOp (rSame K) (tMth "signs" (one (He.ga K "Foreteller") (sp_Foreteller_signs K)) (fun _ => E) (tVar 9) (tNil)) (tLst (tNil))))))) ⟨nx, Q, bk, ct⟩ [some (.ref sc), some (.ref l), some (.int way), u3, u4, u5, u6, u7, some (.ref sg), some (.ref a), some (.ref d), some (.ref w), some (.ref tx), u13] H := by
  refine Bx.out ?_
  simp (disch := with_unfolding_all
  have tail := fun {tx : Addr} {H : Hp} {tas : List Addr} {ts : List (List Int)} => law17 (K := K) (sc := sc) (l := l) (sg := sg) (a := a) (d := d) (w := w) (tx := tx) (u2 := some (.int way)) (u3 := u3) (u4 := u4) (u5 := u5) (u6 := u6) (u7 := u7) (u13 := u13) (H := H) (Fp := Fp) (las := las) (tas := tas) (ks := ks) (ts := ts) (nx := nx) (bk := bk) (ct := ct) (Q := Q) (E := E)
  generalize (tSeq (tFor (iList K (tVar 12)) (gName 13) (tSeq (tAsg (tFun (sp_Lseen K) [] (fun _ => E) (tCons (tVar 9) (tCons (tVar 1) (tCons (tVar 10) (tCons (tVar 11) (tCons (tVar 13) (tNil))))))) (gName 11)) (tIfS (tTest (tOp (rIsNo) (tVar 11) (tC .non))) (tRet (tC (.bl false))) (tNext)))) (tRet (tAndV (tOp (rSame K) (tMth "node" (one (He.ga K "Foreteller") (sp_Foreteller_node K)) (fun _ => E) (tVar 9) (tNil)) (tC (.int 0))) (tOp (rSame K) (tMth "signs" (one (He.ga K "Foreteller") (sp_Foreteller_signs K)) (fun _ => E) (tVar 9) (tNil)) (tLst (tNil)))))) = R17 at tail ⊢
  have et := T.lst
  have tl := T.len
  walk_at "go"
  refine dif (fun c => ?_) fun c => ?_
  · walk_at "go"
    intro e0 n0
    walk_at "go"
    intro e1 n1
    have s1 := same_new (u := .lst [.ref e0]) (same_new (u := .lst []) (Same.refl H) n0) n1
    have ee1 : (upd (upd H e0 (.lst [])) e1 (.lst [.ref e0])) e1 = some (.lst [.ref e0]) := upd_same
    have ee0 : (upd (upd H e0 (.lst [])) e1 (.lst [.ref e0])) e0 = some (.lst (([] : List Int).map V.int)) := lk_new upd_same n1
    generalize upd (upd H e0 (.lst [])) e1 (.lst [.ref e0]) = H1 at s1 ee1 ee0 ⊢
    walk_at "go"
    refine g_rep ee1 (by decide) (by decide) (Nat.le_trans (m := 300) (Nat.le_refl _) (by decide)) ?_
    intro e2 n2
    rw [show (300 : Int).toNat = 300 from rfl, rep1ref]
    have hz : ((List.replicate 300 e0).map V.ref).length = 300 := by rw [List.length_map, List.length_replicate]
    have s2 := same_new (u := .lst ((List.replicate 300 e0).map V.ref)) s1 n2
    have ee2 : (upd H1 e2 (.lst ((List.replicate 300 e0).map V.ref))) e2 = some (.lst ((List.replicate 300 e0).map V.ref)) := upd_same
    have ee02 := lk_new (u := .lst ((List.replicate 300 e0).map V.ref)) ee0 n2
    generalize upd H1 e2 (.lst ((List.replicate 300 e0).map V.ref)) = H2 at s2 ee2 ee02 ⊢
    have et2 := s2 _ _ et
    walk_at "go"
    intro e3 n3
    have nF : ∀ {x : Addr}, H x = none → ¬ Fp x := fun e z => by
      obtain ⟨o, ho, _⟩ := A.dom _ z
      rw [e] at ho
      cases ho
    rw [← List.map_append]
    have s3 := same_new (u := .lst ((tas ++ List.replicate 300 e0).map V.ref)) s2 n3
    have l3 : (ts ++ List.replicate 300 []).length ≤ 303 := by rw [List.length_append, List.length_replicate]; omega
    refine tail (ts := ts ++ List.replicate 300 []) (tas := tas ++ List.replicate 300 e0) (A.same s3) (s3 _ _ ed) fd (L.same s3) fl ok ⟨upd_same, by rw [List.length_append, List.length_append, tl, List.length_replicate, List.length_replicate], fun i x t hx ht => ?_⟩ (nF (s2.free n3)) (fun x hx => ?_) ⟨by omega, fun t ht => ?_⟩ ?_ (s3 _ _ ew) fw q
    · rw [List.getElem?_append] at hx ht
      split at hx
      · rename_i c1
        rw [if_pos (by omega)] at ht
        exact s3 _ _ (T.at_ i x t hx ht)
      · rename_i c1
        rw [if_neg (by omega)] at ht
        rw [List.eq_of_mem_replicate (List.mem_of_getElem? hx), List.eq_of_mem_replicate (List.mem_of_getElem? ht)]
        exact lk_new ee02 n3
    · rcases List.mem_append.mp hx with z | z
      · exact fts x z
      · rw [List.eq_of_mem_replicate z]
        exact nF n0
    · rcases List.mem_append.mp ht with z | z
      · exact tok t z
      · rw [List.eq_of_mem_replicate z]
        exact ⟨by show 0 ≤ 1000; decide, fun z hz => nomatch hz⟩
    · rw [dB_app, List.length_append, dB_nils]
      omega
  · refine g_next ?_
    exact tail A ed fd L fl ok T ft fts ⟨by omega, tok⟩ (by omega) ew fw q
  ) only [↓Bx.eq]
theorem law12 {sc l sg : Addr} {way : Int} {x1 x2 : Nat} {u3 u4 u5 : Option V} {H : Hp} {las : List Addr} {ks : List Lk} {ns : List Int} {nx bk ct : St → Hp → Prop} {Q : VK} {E : XK}
    (L : LooksH H l las ks) (ok : LksOk ks) (esg : H sg = some (.lst (ns.map V.int))) (al : ∀ z ∈ ns, 0 ≤ z ∧ z ≤ 255) (nl : ns.length ≤ 100) (q : ∀ H', Q (.bl true) H') :
    (tSeq (tAsg (tNew (He.ga K "Foreteller") (sp_Foreteller_init K) [] (fun _ => E) (tCons (tCB (rListOf K) (tCons (tVar 1) (tNil))) (tNil))) (gName 9)) (tSeq (tAsg (tDNewN) (gName 10)) (tSeq (tAsg (tOp (rTimes) (tLst (tCons (tOp (rLsh) (tC (.int 1)) (tC (.int 40))) (tNil))) (tCB (rLength K) (tCons (tVar 1) (tNil)))) (gName 11)) (tSeq (tAsg (tLst (tCons (tSl (rSlL K) (tVar 8) (tNoPart) (tPart (tVar 6))) (tCons (tSl (rSlL K) (tVar 8) (tPart (tVar 6)) (tPart (tVar 7))) (tCons (tSl (rSlL K) (tVar 8) (tPart (tVar 7)) (tNoPart)) (tNil))))) (gName 12)) (tSeq (tIfS (tTest (tOp (rSame K) (tOp (rRest) (tVar 2) (tC (.int 3))) (tC (.int 2)))) (tAsg (tOp (rPlus K) (tVar 12) (tOp (rTimes) (tLst (tCons (tLst (tNil)) (tNil))) (tC (.int 300)))) (gName 12)) (tNext)) (tSeq (tFor (iList K (tVar 12)) (gName 13) (tSeq (tAsg (tFun (sp_Lseen K) [] (fun _ => E) (tCons (tVar 9) (tCons (tVar 1) (tCons (tVar 10) (tCons (tVar 11) (tCons (tVar 13) (tNil))))))) (gName 11)) (tIfS (tTest (tOp (rIsNo) (tVar 11) (tC .non))) (tRet (tC (.bl false))) (tNext)))) (tRet (tAndV (tOp (rSame K) (tMth "node" (one (He.ga K "Foreteller") (sp_Foreteller_node K)) (fun _ => E) (tVar 9) (tNil)) (tC (.int 0))) (tOp (rSame K) (tMth "signs" (one (He.ga K "Foreteller") (sp_Foreteller_signs K)) (fun _ => E) (tVar 9) (tNil)) (tLst (tNil))))))))))) ⟨nx, Q, bk, ct⟩ [some (.ref sc), some (.ref l), some (.int way), u3, u4, u5, some (.int (x1 : Int)), some (.int (x2 : Int)), some (.ref sg), none, none, none, none, none] H := by
  refine Bx.out ?_
  simp (disch := with_unfolding_all
  have l6 := ok.l6
  have ll := L.len
  have hl := L.lst
  have tail := fun {a d w tx : Addr} {u3 u4 u5 u6 u7 u13 : Option V} {H : Hp} {Fp : Addr → Prop} {las tas : List Addr} {ts : List (List Int)} => law16 (K := K) (sc := sc) (l := l) (sg := sg) (a := a) (d := d) (w := w) (tx := tx) (way := way) (u3 := u3) (u4 := u4) (u5 := u5) (u6 := u6) (u7 := u7) (u13 := u13) (H := H) (Fp := Fp) (las := las) (tas := tas) (ks := ks) (ts := ts) (nx := nx) (bk := bk) (ct := ct) (Q := Q) (E := E)
  generalize (tSeq (tIfS (tTest (tOp (rSame K) (tOp (rRest) (tVar 2) (tC (.int 3))) (tC (.int 2)))) (tAsg (tOp (rPlus K) (tVar 12) (tOp (rTimes) (tLst (tCons (tLst (tNil)) (tNil))) (tC (.int 300)))) (gName 12)) (tNext)) (tSeq (tFor (iList K (tVar 12)) (gName 13) (tSeq (tAsg (tFun (sp_Lseen K) [] (fun _ => E) (tCons (tVar 9) (tCons (tVar 1) (tCons (tVar 10) (tCons (tVar 11) (tCons (tVar 13) (tNil))))))) (gName 11)) (tIfS (tTest (tOp (rIsNo) (tVar 11) (tC .non))) (tRet (tC (.bl false))) (tNext)))) (tRet (tAndV (tOp (rSame K) (tMth "node" (one (He.ga K "Foreteller") (sp_Foreteller_node K)) (fun _ => E) (tVar 9) (tNil)) (tC (.int 0))) (tOp (rSame K) (tMth "signs" (one (He.ga K "Foreteller") (sp_Foreteller_signs K)) (fun _ => E) (tVar 9) (tNil)) (tLst (tNil))))))) = R16 at tail ⊢
  walk_at "go"
  intro hd nhd
  have L5 := L.copy nhd
  have s5 := same_new (u := .lst (las.map V.ref)) (Same.refl H) nhd
  generalize upd H hd (.lst (las.map V.ref)) = H5 at L5 s5 ⊢
  walk_at "go"
  intro a dx na ndx nad
  walk_at "go"
  refine fore_new K L5 ok na ndx nad fun F H6 s6 new A => ?_
  have S6 := Same.trans s5 s6
  have fl : ¬ F l := fun z => by
    have := new l z
    rw [s5 _ _ L.lst] at this
    cases this
  have L6 := L.same S6
  have esg6 := S6 _ _ esg
  clear L5 s5 na ndx nad s6 new S6 L esg hl
  walk_at "go"
  refine g_dnewN fun d nd => ?_
  have fd : ¬ F d := fun z => by
    obtain ⟨o, ho, _⟩ := A.dom _ z
    rw [nd] at ho
    cases ho
  have s7 := same_new (u := dN d []) (Same.refl H6) nd
  have ed : (upd H6 d (dN d [])) d = some (dN d []) := upd_same
  have A7 := A.same s7
  have L7 := L6.same s7
  have esg7 := s7 _ _ esg6
  generalize upd H6 d (dN d []) = H7 at s7 ed A7 L7 esg7 ⊢
  clear A L6 esg6 s7 nd
  have el7 := L7.lst
  walk_at "go"
  intro o0 no0
  walk_at "go"
  rw [List.length_map, ll]
  refine g_rep upd_same (by omega) (by omega) (Nat.le_trans (m := 1000000) (by simp only [List.length_cons, List.length_nil]; omega) (by decide)) ?_
  intro w nw
  rw [Int.toNat_natCast, rep1']
  have s8 := same_new (u := .lst ((List.replicate ks.length (1099511627776 : Int)).map V.int)) (same_new (u := .lst [V.int 1099511627776]) (Same.refl H7) no0) nw
  have ew : (upd (upd H7 o0 (.lst [V.int 1099511627776])) w (.lst ((List.replicate ks.length (1099511627776 : Int)).map V.int))) w = some (.lst ((List.replicate ks.length (1099511627776 : Int)).map V.int)) := upd_same
  have fw : ¬ F w := fun z => by
    obtain ⟨o, ho, _⟩ := A7.dom _ z
    rw [Same.free (same_new (u := .lst [V.int 1099511627776]) (Same.refl H7) no0) nw] at ho
    cases ho
  generalize upd (upd H7 o0 (.lst [V.int 1099511627776])) w (.lst ((List.replicate ks.length (1099511627776 : Int)).map V.int)) = H8 at s8 ew ⊢
  have A8 := A7.same s8
  have L8 := L7.same s8
  have esg8 := s8 _ _ esg7
  have ed8 := s8 _ _ ed
  clear A7 L7 esg7 ed s8 no0 nw el7
  have cut1 := (cutL_len ns none (some (x1 : Int)))
  have cut2 := (cutL_len ns (some (x1 : Int)) (some (x2 : Int)))
  have cut3 := (cutL_len ns (some (x2 : Int)) none)
  have ok1 : TextOk 1000 (cutL ns none (some (x1 : Int))) := ⟨by omega, fun z hz => al z (cutL_sub _ _ _ hz)⟩
  have ok2 : TextOk 1000 (cutL ns (some (x1 : Int)) (some (x2 : Int))) := ⟨by omega, fun z hz => al z (cutL_sub _ _ _ hz)⟩
  have ok3 : TextOk 1000 (cutL ns (some (x2 : Int)) none) := ⟨by omega, fun z hz => al z (cutL_sub _ _ _ hz)⟩
  walk_at "go"
  intro c1 n1
  rw [cutV_map]
  generalize cutL ns none (some (x1 : Int)) = t1 at cut1 ok1 ⊢
  have e1 : (upd H8 c1 (.lst (t1.map V.int))) c1 = some (.lst (t1.map V.int)) := upd_same
  have s1 := same_new (u := .lst (t1.map V.int)) (Same.refl H8) n1
  generalize upd H8 c1 (.lst (t1.map V.int)) = H9 at e1 s1 ⊢
  have esg9 := s1 _ _ esg8
  walk_at "go"
  intro c2 n2
  rw [cutV_map]
  generalize cutL ns (some (x1 : Int)) (some (x2 : Int)) = t2 at cut2 ok2 ⊢
  have e2 : (upd H9 c2 (.lst (t2.map V.int))) c2 = some (.lst (t2.map V.int)) := upd_same
  have s2 := same_new (u := .lst (t2.map V.int)) s1 n2
  have e12 := lk_new (u := .lst (t2.map V.int)) e1 n2
  generalize upd H9 c2 (.lst (t2.map V.int)) = H10 at e2 e12 s2 ⊢
  have esg10 := s2 _ _ esg8
  walk_at "go"
  intro c3 n3
  rw [cutV_map]
  generalize cutL ns (some (x2 : Int)) none = t3 at cut3 ok3 ⊢
  have e3 : (upd H10 c3 (.lst (t3.map V.int))) c3 = some (.lst (t3.map V.int)) := upd_same
  have s3 := same_new (u := .lst (t3.map V.int)) s2 n3
  have e13 := lk_new (u := .lst (t3.map V.int)) e12 n3
  have e23 := lk_new (u := .lst (t3.map V.int)) e2 n3
  generalize upd H10 c3 (.lst (t3.map V.int)) = H11 at e3 e13 e23 s3 ⊢
  walk_at "go"
  intro tx nt
  have s4 := same_new (u := .lst [.ref c1, .ref c2, .ref c3]) s3 nt
  have nF : ∀ {x : Addr}, H8 x = none → ¬ F x := fun e z => by
    obtain ⟨o, ho, _⟩ := A8.dom _ z
    rw [e] at ho
    cases ho
  refine tail (tas := [c1, c2, c3]) (ts := [t1, t2, t3]) (A8.same s4) (s4 _ _ ed8) fd (L8.same s4) fl ok ⟨upd_same, rfl, fun i x t hx ht => ?_⟩ (nF (s3.free nt)) (fun x hx => ?_) (Nat.le_refl _) (fun t ht => ?_) ?_ (s4 _ _ ew) fw q
  · match i, hx, ht with
    | 0, hx, ht => cases hx; cases ht; exact lk_new e13 nt
    | 1, hx, ht => cases hx; cases ht; exact lk_new e23 nt
    | 2, hx, ht => cases hx; cases ht; exact lk_new e3 nt
  · simp only [List.mem_cons, List.not_mem_nil, or_false] at hx
    rcases hx with rfl | rfl | rfl
    · exact nF n1
    · exact nF (s1.free n2)
    · exact nF (s2.free n3)
  · simp only [List.mem_cons, List.not_mem_nil, or_false] at ht
    rcases ht with rfl | rfl | rfl
    · exact ok1
    · exact ok2
    · exact ok3
  · have d1 := dec_len t1
    have d2 := dec_len t2
    have d3 := dec_len t3
    have e : dB [t1, t2, t3] = decOf t1 ++ (decOf t2 ++ (decOf t3 ++ [])) := rfl
    rw [e, List.length_append, List.length_append, List.length_append, List.length_nil]
    omega
  ) only [↓Bx.eq]
end
/-! k25: the law -/
theorem LooksH.take25 {H : Hp} {l a : Addr} {las : List Addr} {ks : List Lk} {m : Nat} (h : LooksH H l las ks) (na : H a = none) : LooksH (upd H a (.lst (cutV (las.map V.ref) none (some (m : Int))))) a (las.take m) (ks.take m) := by
  refine ⟨by rw [upd_same, cutV_map, cutL_to], by rw [List.length_take, List.length_take, h.len], fun i x y hx hy => ?_⟩
  have h1 := List.getElem?_eq_some_iff.mp hx
  have c : i < m := by
    have := h1.1
    rw [List.length_take] at this
    omega
  rw [List.getElem?_take, if_pos c] at hx hy
  exact (h.at_ i x y hx hy).same (same_new (Same.refl _) na)
theorem LksOk.take25 {ks : List Lk} {m : Nat} (h : LksOk ks) (m1 : 1 ≤ m) : LksOk (ks.take m) := ⟨by have := h.l1; rw [List.length_take]; omega, by have := h.l6; rw [List.length_take]; omega, fun k hk => h.all k (List.mem_of_mem_take hk)⟩
theorem clip25 {n : Nat} {c : Int} (hc : 1 ≤ c) : ∃ m : Nat, (if (if (n : Int) - 8 > 1 then (n : Int) - 8 else 1) < c then (if (n : Int) - 8 > 1 then (n : Int) - 8 else 1) else c) = (m : Int) ∧ 1 ≤ m ∧ (m : Int) ≤ c := by
  by_cases h1 : (n : Int) - 8 > 1
  · rw [if_pos h1]
    by_cases h2 : (n : Int) - 8 < c
    · rw [if_pos h2]
      exact ⟨((n : Int) - 8).toNat, by omega, by omega, by omega⟩
    · rw [if_neg h2]
      exact ⟨c.toNat, by omega, by omega, by omega⟩
  · rw [if_neg h1]
    by_cases h2 : (1 : Int) < c
    · rw [if_pos h2]
      exact ⟨1, rfl, by decide, by omega⟩
    · rw [if_neg h2]
      exact ⟨c.toNat, by omega, by omega, by omega⟩
theorem twice25 {ns : List Int} : (List.replicate 2 (ns.map V.int)).flatten = (ns ++ ns).map V.int := by
  rw [List.map_append]
  show (ns.map V.int) ++ ((ns.map V.int) ++ []) = _
  rw [List.append_nil]
theorem g_par3 {i j l : Nat} {ta : TA} {nx bk ct : St → Hp → Prop} {rt : VK} {σ : St} {H : Hp} (q : ta σ H fun vs H1 => ∃ u v w, vs = [u, v, w] ∧ nx (((σ.set i (some u)).set j (some v)).set l (some w)) H1) : tPar3 i j l ta ⟨nx, rt, bk, ct⟩ σ H := q
section
variable (K : PySem.W.Frag)
theorem law11 {sc l sg : Addr} {way : Int} {x1 x2 : Nat} {u3 u4 u5 : Option V} {H : Hp} {cs : List Int} {las : List Addr} {ks : List Lk} {ns : List Int} {nx bk ct : St → Hp → Prop} {Q : VK} {E : XK} (hs : SqL K H sc (cs.map V.int))
    (L : LooksH H l las ks) (ok : LksOk ks) (esg : H sg = some (.lst (ns.map V.int))) (al : ∀ z ∈ ns, 0 ≤ z ∧ z ≤ 255) (nl : ns.length ≤ 100) (q : ∀ H', Q (.bl true) H') :
    (tSeq (tIfS (tTest (tOp (rSame K) (tOp (rRest) (tVar 2) (tC (.int 48))) (tC (.int 1)))) (tSeq (tPar3 1 6 7 (tCons (tSl (rSlL K) (tVar 1) (tNoPart) (tPart (tC (.int 1)))) (tCons (tC (.int 0)) (tCons (tC (.int 0)) (tNil))))) (tAsg (tSl (rSlL K) (tOp (rTimes) (tFun (sp_Ltext K) [] (fun _ => E) (tCons (tVar 0) (tCons (tC (.int 8)) (tCons (tC (.int 35)) (tNil))))) (tC (.int 2))) (tNoPart) (tPart (tOp (rPlus K) (tC (.int 66)) (tOp (rRest) (tOp (rFloor) (tVar 2) (tC (.int 48))) (tC (.int 5)))))) (gName 8))) (tNext)) (tSeq (tAsg (tNew (He.ga K "Foreteller") (sp_Foreteller_init K) [] (fun _ => E) (tCons (tCB (rListOf K) (tCons (tVar 1) (tNil))) (tNil))) (gName 9)) (tSeq (tAsg (tDNewN) (gName 10)) (tSeq (tAsg (tOp (rTimes) (tLst (tCons (tOp (rLsh) (tC (.int 1)) (tC (.int 40))) (tNil))) (tCB (rLength K) (tCons (tVar 1) (tNil)))) (gName 11)) (tSeq (tAsg (tLst (tCons (tSl (rSlL K) (tVar 8) (tNoPart) (tPart (tVar 6))) (tCons (tSl (rSlL K) (tVar 8) (tPart (tVar 6)) (tPart (tVar 7))) (tCons (tSl (rSlL K) (tVar 8) (tPart (tVar 7)) (tNoPart)) (tNil))))) (gName 12)) (tSeq (tIfS (tTest (tOp (rSame K) (tOp (rRest) (tVar 2) (tC (.int 3))) (tC (.int 2)))) (tAsg (tOp (rPlus K) (tVar 12) (tOp (rTimes) (tLst (tCons (tLst (tNil)) (tNil))) (tC (.int 300)))) (gName 12)) (tNext)) (tSeq (tFor (iList K (tVar 12)) (gName 13) (tSeq (tAsg (tFun (sp_Lseen K) [] (fun _ => E) (tCons (tVar 9) (tCons (tVar 1) (tCons (tVar 10) (tCons (tVar 11) (tCons (tVar 13) (tNil))))))) (gName 11)) (tIfS (tTest (tOp (rIsNo) (tVar 11) (tC .non))) (tRet (tC (.bl false))) (tNext)))) (tRet (tAndV (tOp (rSame K) (tMth "node" (one (He.ga K "Foreteller") (sp_Foreteller_node K)) (fun _ => E) (tVar 9) (tNil)) (tC (.int 0))) (tOp (rSame K) (tMth "signs" (one (He.ga K "Foreteller") (sp_Foreteller_signs K)) (fun _ => E) (tVar 9) (tNil)) (tLst (tNil)))))))))))) ⟨nx, Q, bk, ct⟩ [some (.ref sc), some (.ref l), some (.int way), u3, u4, u5, some (.int (x1 : Int)), some (.int (x2 : Int)), some (.ref sg), none, none, none, none, none] H := by
  refine Bx.out ?_
  simp (disch := with_unfolding_all
  have tail := fun {l sg : Addr} {x1 x2 : Nat} {H : Hp} {las : List Addr} {ks : List Lk} {ns : List Int} => law12 (K := K) (sc := sc) (l := l) (sg := sg) (way := way) (x1 := x1) (x2 := x2) (u3 := u3) (u4 := u4) (u5 := u5) (H := H) (las := las) (ks := ks) (ns := ns) (nx := nx) (bk := bk) (ct := ct) (Q := Q) (E := E)
  generalize (tSeq (tAsg (tNew (He.ga K "Foreteller") (sp_Foreteller_init K) [] (fun _ => E) (tCons (tCB (rListOf K) (tCons (tVar 1) (tNil))) (tNil))) (gName 9)) (tSeq (tAsg (tDNewN) (gName 10)) (tSeq (tAsg (tOp (rTimes) (tLst (tCons (tOp (rLsh) (tC (.int 1)) (tC (.int 40))) (tNil))) (tCB (rLength K) (tCons (tVar 1) (tNil)))) (gName 11)) (tSeq (tAsg (tLst (tCons (tSl (rSlL K) (tVar 8) (tNoPart) (tPart (tVar 6))) (tCons (tSl (rSlL K) (tVar 8) (tPart (tVar 6)) (tPart (tVar 7))) (tCons (tSl (rSlL K) (tVar 8) (tPart (tVar 7)) (tNoPart)) (tNil))))) (gName 12)) (tSeq (tIfS (tTest (tOp (rSame K) (tOp (rRest) (tVar 2) (tC (.int 3))) (tC (.int 2)))) (tAsg (tOp (rPlus K) (tVar 12) (tOp (rTimes) (tLst (tCons (tLst (tNil)) (tNil))) (tC (.int 300)))) (gName 12)) (tNext)) (tSeq (tFor (iList K (tVar 12)) (gName 13) (tSeq (tAsg (tFun (sp_Lseen K) [] (fun _ => E) (tCons (tVar 9) (tCons (tVar 1) (tCons (tVar 10) (tCons (tVar 11) (tCons (tVar 13) (tNil))))))) (gName 11)) (tIfS (tTest (tOp (rIsNo) (tVar 11) (tC .non))) (tRet (tC (.bl false))) (tNext)))) (tRet (tAndV (tOp (rSame K) (tMth "node" (one (He.ga K "Foreteller") (sp_Foreteller_node K)) (fun _ => E) (tVar 9) (tNil)) (tC (.int 0))) (tOp (rSame K) (tMth "signs" (one (He.ga K "Foreteller") (sp_Foreteller_signs K)) (fun _ => E) (tVar 9) (tNil)) (tLst (tNil))))))))))) = R12 at tail ⊢
  have hl := L.lst
  walk_at "go"
  refine dif (fun c => ?_) fun c => ?_
  · walk_at "go"
    refine g_par3 ?_
    walk_at "go"
    intro c1 n1
    have L1 : LooksH (upd H c1 (.lst (cutV (las.map V.ref) none (some 1)))) c1 (las.take 1) (ks.take 1) := L.take25 (m := 1) n1
    have s1 := same_new (u := .lst (cutV (las.map V.ref) none (some 1))) (Same.refl H) n1
    generalize upd H c1 (.lst (cutV (las.map V.ref) none (some 1))) = H1 at L1 s1 ⊢
    walk_at "go"
    refine ⟨_, _, _, rfl, ?_⟩
    have hs2 := s1.seq hs
    walk_at "go"
    refine ⟨sc, cs, 8, 35, rfl, rfl, rfl, hs2, by decide, fun t ms H3 nt s3 et tk tl => ?_⟩
    walk_at "go"
    refine g_rep et (by decide) (by decide) (Nat.le_trans (m := 70) (by rw [List.length_map, tl]; exact Nat.le_refl _) (by decide)) ?_
    intro t2 nt2
    rw [show (2 : Int).toNat = 2 from rfl, twice25]
    have s4 := same_new (u := .lst ((ms ++ ms).map V.int)) s3 nt2
    have et2 : (upd H3 t2 (.lst ((ms ++ ms).map V.int))) t2 = some (.lst ((ms ++ ms).map V.int)) := upd_same
    generalize upd H3 t2 (.lst ((ms ++ ms).map V.int)) = H4 at s4 et2 ⊢
    walk_at "go"
    intro t3 nt3
    rw [cutV_map]
    have cl := cutL_len (ms ++ ms) none (some (66 + way / 48 % 5))
    rw [List.length_append, tl] at cl
    refine tail (x1 := 0) (x2 := 0) ((L1.same s4).same (same_new (Same.refl _) nt3)) (ok.take25 (Nat.le_refl _)) upd_same (fun z hz => ?_) (by omega) q
    rcases List.mem_append.mp (cutL_sub _ _ _ hz) with y | y
    · exact tk.all z y
    · exact tk.all z y
  · refine g_next ?_
    exact tail L ok esg al nl q
  ) only [↓Bx.eq]
theorem law10 {sc l : Addr} {way : Int} {m x1 x2 : Nat} {u3 u4 : Option V} {H : Hp} {cs : List Int} {las : List Addr} {ks : List Lk} {nx bk ct : St → Hp → Prop} {Q : VK} {E : XK} (hs : SqL K H sc (cs.map V.int))
    (L : LooksH H l las ks) (ok : LksOk ks) (hm : m ≤ 55) (q : ∀ H', Q (.bl true) H') :
    (tSeq (tAsg (tFun (sp_Ltext K) [] (fun _ => E) (tCons (tVar 0) (tCons (tC (.int 8)) (tCons (tVar 5) (tNil))))) (gName 8)) (tSeq (tIfS (tTest (tOp (rSame K) (tOp (rRest) (tVar 2) (tC (.int 48))) (tC (.int 1)))) (tSeq (tPar3 1 6 7 (tCons (tSl (rSlL K) (tVar 1) (tNoPart) (tPart (tC (.int 1)))) (tCons (tC (.int 0)) (tCons (tC (.int 0)) (tNil))))) (tAsg (tSl (rSlL K) (tOp (rTimes) (tFun (sp_Ltext K) [] (fun _ => E) (tCons (tVar 0) (tCons (tC (.int 8)) (tCons (tC (.int 35)) (tNil))))) (tC (.int 2))) (tNoPart) (tPart (tOp (rPlus K) (tC (.int 66)) (tOp (rRest) (tOp (rFloor) (tVar 2) (tC (.int 48))) (tC (.int 5)))))) (gName 8))) (tNext)) (tSeq (tAsg (tNew (He.ga K "Foreteller") (sp_Foreteller_init K) [] (fun _ => E) (tCons (tCB (rListOf K) (tCons (tVar 1) (tNil))) (tNil))) (gName 9)) (tSeq (tAsg (tDNewN) (gName 10)) (tSeq (tAsg (tOp (rTimes) (tLst (tCons (tOp (rLsh) (tC (.int 1)) (tC (.int 40))) (tNil))) (tCB (rLength K) (tCons (tVar 1) (tNil)))) (gName 11)) (tSeq (tAsg (tLst (tCons (tSl (rSlL K) (tVar 8) (tNoPart) (tPart (tVar 6))) (tCons (tSl (rSlL K) (tVar 8) (tPart (tVar 6)) (tPart (tVar 7))) (tCons (tSl (rSlL K) (tVar 8) (tPart (tVar 7)) (tNoPart)) (tNil))))) (gName 12)) (tSeq (tIfS (tTest (tOp (rSame K) (tOp (rRest) (tVar 2) (tC (.int 3))) (tC (.int 2)))) (tAsg (tOp (rPlus K) (tVar 12) (tOp (rTimes) (tLst (tCons (tLst (tNil)) (tNil))) (tC (.int 300)))) (gName 12)) (tNext)) (tSeq (tFor (iList K (tVar 12)) (gName 13) (tSeq (tAsg (tFun (sp_Lseen K) [] (fun _ => E) (tCons (tVar 9) (tCons (tVar 1) (tCons (tVar 10) (tCons (tVar 11) (tCons (tVar 13) (tNil))))))) (gName 11)) (tIfS (tTest (tOp (rIsNo) (tVar 11) (tC .non))) (tRet (tC (.bl false))) (tNext)))) (tRet (tAndV (tOp (rSame K) (tMth "node" (one (He.ga K "Foreteller") (sp_Foreteller_node K)) (fun _ => E) (tVar 9) (tNil)) (tC (.int 0))) (tOp (rSame K) (tMth "signs" (one (He.ga K "Foreteller") (sp_Foreteller_signs K)) (fun _ => E) (tVar 9) (tNil)) (tLst (tNil))))))))))))) ⟨nx, Q, bk, ct⟩ [some (.ref sc), some (.ref l), some (.int way), u3, u4, some (.int (m : Int)), some (.int (x1 : Int)), some (.int (x2 : Int)), none, none, none, none, none, none] H := by
  refine Bx.out ?_
  simp (disch := with_unfolding_all
  have tail := fun {sg : Addr} {H : Hp} {ns : List Int} => law11 (K := K) (sc := sc) (l := l) (sg := sg) (way := way) (x1 := x1) (x2 := x2) (u3 := u3) (u4 := u4) (u5 := some (.int (m : Int))) (H := H) (cs := cs) (las := las) (ks := ks) (ns := ns) (nx := nx) (bk := bk) (ct := ct) (Q := Q) (E := E)
  generalize (tSeq (tIfS (tTest (tOp (rSame K) (tOp (rRest) (tVar 2) (tC (.int 48))) (tC (.int 1)))) (tSeq (tPar3 1 6 7 (tCons (tSl (rSlL K) (tVar 1) (tNoPart) (tPart (tC (.int 1)))) (tCons (tC (.int 0)) (tCons (tC (.int 0)) (tNil))))) (tAsg (tSl (rSlL K) (tOp (rTimes) (tFun (sp_Ltext K) [] (fun _ => E) (tCons (tVar 0) (tCons (tC (.int 8)) (tCons (tC (.int 35)) (tNil))))) (tC (.int 2))) (tNoPart) (tPart (tOp (rPlus K) (tC (.int 66)) (tOp (rRest) (tOp (rFloor) (tVar 2) (tC (.int 48))) (tC (.int 5)))))) (gName 8))) (tNext)) (tSeq (tAsg (tNew (He.ga K "Foreteller") (sp_Foreteller_init K) [] (fun _ => E) (tCons (tCB (rListOf K) (tCons (tVar 1) (tNil))) (tNil))) (gName 9)) (tSeq (tAsg (tDNewN) (gName 10)) (tSeq (tAsg (tOp (rTimes) (tLst (tCons (tOp (rLsh) (tC (.int 1)) (tC (.int 40))) (tNil))) (tCB (rLength K) (tCons (tVar 1) (tNil)))) (gName 11)) (tSeq (tAsg (tLst (tCons (tSl (rSlL K) (tVar 8) (tNoPart) (tPart (tVar 6))) (tCons (tSl (rSlL K) (tVar 8) (tPart (tVar 6)) (tPart (tVar 7))) (tCons (tSl (rSlL K) (tVar 8) (tPart (tVar 7)) (tNoPart)) (tNil))))) (gName 12)) (tSeq (tIfS (tTest (tOp (rSame K) (tOp (rRest) (tVar 2) (tC (.int 3))) (tC (.int 2)))) (tAsg (tOp (rPlus K) (tVar 12) (tOp (rTimes) (tLst (tCons (tLst (tNil)) (tNil))) (tC (.int 300)))) (gName 12)) (tNext)) (tSeq (tFor (iList K (tVar 12)) (gName 13) (tSeq (tAsg (tFun (sp_Lseen K) [] (fun _ => E) (tCons (tVar 9) (tCons (tVar 1) (tCons (tVar 10) (tCons (tVar 11) (tCons (tVar 13) (tNil))))))) (gName 11)) (tIfS (tTest (tOp (rIsNo) (tVar 11) (tC .non))) (tRet (tC (.bl false))) (tNext)))) (tRet (tAndV (tOp (rSame K) (tMth "node" (one (He.ga K "Foreteller") (sp_Foreteller_node K)) (fun _ => E) (tVar 9) (tNil)) (tC (.int 0))) (tOp (rSame K) (tMth "signs" (one (He.ga K "Foreteller") (sp_Foreteller_signs K)) (fun _ => E) (tVar 9) (tNil)) (tLst (tNil)))))))))))) = R11 at tail ⊢
  walk_at "go"
  refine ⟨sc, cs, 8, m, rfl, rfl, rfl, hs, by omega, fun t ms H3 nt s3 et tk tl => ?_⟩
  walk_at "go"
  exact tail (s3.seq hs) (L.same s3) ok et tk.all (by omega) q
  ) only [↓Bx.eq]
theorem law8 {sc l : Addr} {way : Int} {m x1 : Nat} {u3 u4 : Option V} {H : Hp} {cs : List Int} {las : List Addr} {ks : List Lk} {nx bk ct : St → Hp → Prop} {Q : VK} {E : XK} (hs : SqL K H sc (cs.map V.int))
    (L : LooksH H l las ks) (ok : LksOk ks) (hm : m ≤ 55) (hx : x1 ≤ m) (q : ∀ H', Q (.bl true) H') :
    (tSeq (tAsg (tOp (rPlus K) (tVar 6) (tOp (rRest) (tOp (rFloor) (tFun (sp_Lcell_at K) [] (fun _ => E) (tCons (tVar 0) (tCons (tC (.int 6)) (tNil)))) (tC (.int 30))) (tOp (rPlus K) (tOp (rMinus) (tVar 5) (tVar 6)) (tC (.int 1))))) (gName 7)) (tSeq (tIfS (tAnd (tTest (tOp (rSame K) (tOp (rRest) (tVar 2) (tC (.int 3))) (tC (.int 1)))) (tTest (tOp (rSame K) (tOp (rRest) (tOp (rFloor) (tVar 2) (tC (.int 18))) (tC (.int 2))) (tC (.int 0))))) (tAsg (tC (.int 0)) (gName 7)) (tNext)) (tSeq (tAsg (tFun (sp_Ltext K) [] (fun _ => E) (tCons (tVar 0) (tCons (tC (.int 8)) (tCons (tVar 5) (tNil))))) (gName 8)) (tSeq (tIfS (tTest (tOp (rSame K) (tOp (rRest) (tVar 2) (tC (.int 48))) (tC (.int 1)))) (tSeq (tPar3 1 6 7 (tCons (tSl (rSlL K) (tVar 1) (tNoPart) (tPart (tC (.int 1)))) (tCons (tC (.int 0)) (tCons (tC (.int 0)) (tNil))))) (tAsg (tSl (rSlL K) (tOp (rTimes) (tFun (sp_Ltext K) [] (fun _ => E) (tCons (tVar 0) (tCons (tC (.int 8)) (tCons (tC (.int 35)) (tNil))))) (tC (.int 2))) (tNoPart) (tPart (tOp (rPlus K) (tC (.int 66)) (tOp (rRest) (tOp (rFloor) (tVar 2) (tC (.int 48))) (tC (.int 5)))))) (gName 8))) (tNext)) (tSeq (tAsg (tNew (He.ga K "Foreteller") (sp_Foreteller_init K) [] (fun _ => E) (tCons (tCB (rListOf K) (tCons (tVar 1) (tNil))) (tNil))) (gName 9)) (tSeq (tAsg (tDNewN) (gName 10)) (tSeq (tAsg (tOp (rTimes) (tLst (tCons (tOp (rLsh) (tC (.int 1)) (tC (.int 40))) (tNil))) (tCB (rLength K) (tCons (tVar 1) (tNil)))) (gName 11)) (tSeq (tAsg (tLst (tCons (tSl (rSlL K) (tVar 8) (tNoPart) (tPart (tVar 6))) (tCons (tSl (rSlL K) (tVar 8) (tPart (tVar 6)) (tPart (tVar 7))) (tCons (tSl (rSlL K) (tVar 8) (tPart (tVar 7)) (tNoPart)) (tNil))))) (gName 12)) (tSeq (tIfS (tTest (tOp (rSame K) (tOp (rRest) (tVar 2) (tC (.int 3))) (tC (.int 2)))) (tAsg (tOp (rPlus K) (tVar 12) (tOp (rTimes) (tLst (tCons (tLst (tNil)) (tNil))) (tC (.int 300)))) (gName 12)) (tNext)) (tSeq (tFor (iList K (tVar 12)) (gName 13) (tSeq (tAsg (tFun (sp_Lseen K) [] (fun _ => E) (tCons (tVar 9) (tCons (tVar 1) (tCons (tVar 10) (tCons (tVar 11) (tCons (tVar 13) (tNil))))))) (gName 11)) (tIfS (tTest (tOp (rIsNo) (tVar 11) (tC .non))) (tRet (tC (.bl false))) (tNext)))) (tRet (tAndV (tOp (rSame K) (tMth "node" (one (He.ga K "Foreteller") (sp_Foreteller_node K)) (fun _ => E) (tVar 9) (tNil)) (tC (.int 0))) (tOp (rSame K) (tMth "signs" (one (He.ga K "Foreteller") (sp_Foreteller_signs K)) (fun _ => E) (tVar 9) (tNil)) (tLst (tNil))))))))))))))) ⟨nx, Q, bk, ct⟩ [some (.ref sc), some (.ref l), some (.int way), u3, u4, some (.int (m : Int)), some (.int (x1 : Int)), none, none, none, none, none, none, none] H := by
  refine Bx.out ?_
  simp (disch := with_unfolding_all
  have tail := fun {x2 : Nat} => law10 (K := K) (sc := sc) (l := l) (way := way) (m := m) (x1 := x1) (x2 := x2) (u3 := u3) (u4 := u4) (H := H) (cs := cs) (las := las) (ks := ks) (nx := nx) (bk := bk) (ct := ct) (Q := Q) (E := E) hs L ok hm q
  have t0 := tail (x2 := 0)
  generalize (tSeq (tAsg (tFun (sp_Ltext K) [] (fun _ => E) (tCons (tVar 0) (tCons (tC (.int 8)) (tCons (tVar 5) (tNil))))) (gName 8)) (tSeq (tIfS (tTest (tOp (rSame K) (tOp (rRest) (tVar 2) (tC (.int 48))) (tC (.int 1)))) (tSeq (tPar3 1 6 7 (tCons (tSl (rSlL K) (tVar 1) (tNoPart) (tPart (tC (.int 1)))) (tCons (tC (.int 0)) (tCons (tC (.int 0)) (tNil))))) (tAsg (tSl (rSlL K) (tOp (rTimes) (tFun (sp_Ltext K) [] (fun _ => E) (tCons (tVar 0) (tCons (tC (.int 8)) (tCons (tC (.int 35)) (tNil))))) (tC (.int 2))) (tNoPart) (tPart (tOp (rPlus K) (tC (.int 66)) (tOp (rRest) (tOp (rFloor) (tVar 2) (tC (.int 48))) (tC (.int 5)))))) (gName 8))) (tNext)) (tSeq (tAsg (tNew (He.ga K "Foreteller") (sp_Foreteller_init K) [] (fun _ => E) (tCons (tCB (rListOf K) (tCons (tVar 1) (tNil))) (tNil))) (gName 9)) (tSeq (tAsg (tDNewN) (gName 10)) (tSeq (tAsg (tOp (rTimes) (tLst (tCons (tOp (rLsh) (tC (.int 1)) (tC (.int 40))) (tNil))) (tCB (rLength K) (tCons (tVar 1) (tNil)))) (gName 11)) (tSeq (tAsg (tLst (tCons (tSl (rSlL K) (tVar 8) (tNoPart) (tPart (tVar 6))) (tCons (tSl (rSlL K) (tVar 8) (tPart (tVar 6)) (tPart (tVar 7))) (tCons (tSl (rSlL K) (tVar 8) (tPart (tVar 7)) (tNoPart)) (tNil))))) (gName 12)) (tSeq (tIfS (tTest (tOp (rSame K) (tOp (rRest) (tVar 2) (tC (.int 3))) (tC (.int 2)))) (tAsg (tOp (rPlus K) (tVar 12) (tOp (rTimes) (tLst (tCons (tLst (tNil)) (tNil))) (tC (.int 300)))) (gName 12)) (tNext)) (tSeq (tFor (iList K (tVar 12)) (gName 13) (tSeq (tAsg (tFun (sp_Lseen K) [] (fun _ => E) (tCons (tVar 9) (tCons (tVar 1) (tCons (tVar 10) (tCons (tVar 11) (tCons (tVar 13) (tNil))))))) (gName 11)) (tIfS (tTest (tOp (rIsNo) (tVar 11) (tC .non))) (tRet (tC (.bl false))) (tNext)))) (tRet (tAndV (tOp (rSame K) (tMth "node" (one (He.ga K "Foreteller") (sp_Foreteller_node K)) (fun _ => E) (tVar 9) (tNil)) (tC (.int 0))) (tOp (rSame K) (tMth "signs" (one (He.ga K "Foreteller") (sp_Foreteller_signs K)) (fun _ => E) (tVar 9) (tNil)) (tLst (tNil))))))))))))) = R10 at tail t0 ⊢
  walk_at "go"
  refine ⟨sc, cs, 6, rfl, rfl, hs, ?_⟩
  walk_at "go"
  refine g_rest (by omega) ?_
  generalize cell cs 6 % 1000000000000000000000000000000 = c6
  obtain ⟨x2, e2⟩ : ∃ c : Nat, (x1 : Int) + c6 / 30 % ((m : Int) - (x1 : Int) + 1) = (c : Int) := ⟨((x1 : Int) + c6 / 30 % ((m : Int) - (x1 : Int) + 1)).toNat, by
    have := Int.emod_nonneg (c6 / 30) (show ((m : Int) - (x1 : Int) + 1) ≠ 0 by omega)
    omega⟩
  walk_at "go"
  rw [e2]
  refine dif (fun c => ?_) fun c => ?_
  · walk_at "go"
    refine dif (fun c => ?_) fun c => ?_
    · walk_at "go"
      exact t0
    · refine g_next ?_
      exact tail
  · refine g_next ?_
    exact tail
  ) only [↓Bx.eq]
theorem law5 {sc l : Addr} {way most : Int} {u4 : Option V} {H : Hp} {cs : List Int} {las : List Addr} {ks : List Lk} {nx bk ct : St → Hp → Prop} {Q : VK} {E : XK} (hs : SqL K H sc (cs.map V.int))
    (L : LooksH H l las ks) (ok : LksOk ks) (m1 : 1 ≤ most) (m55 : most ≤ 55) (q : ∀ H', Q (.bl true) H') :
    (tSeq (tAsg (tCB (rLeast K) (tCons (tVar 3) (tCons (tCB (rGreatest K) (tCons (tC (.int 1)) (tCons (tOp (rMinus) (tCB (rLength K) (tCons (tVar 0) (tNil))) (tC (.int 8))) (tNil)))) (tNil)))) (gName 5)) (tSeq (tAsg (tOp (rRest) (tOp (rFloor) (tFun (sp_Lcell_at K) [] (fun _ => E) (tCons (tVar 0) (tCons (tC (.int 6)) (tNil)))) (tC (.int 5))) (tOp (rPlus K) (tVar 5) (tC (.int 1)))) (gName 6)) (tSeq (tIfS (tAnd (tTest (tOp (rSame K) (tOp (rRest) (tVar 2) (tC (.int 3))) (tC (.int 1)))) (tTest (tOp (rSame K) (tOp (rRest) (tOp (rFloor) (tVar 2) (tC (.int 18))) (tC (.int 2))) (tC (.int 0))))) (tAsg (tC (.int 0)) (gName 6)) (tNext)) (tSeq (tAsg (tOp (rPlus K) (tVar 6) (tOp (rRest) (tOp (rFloor) (tFun (sp_Lcell_at K) [] (fun _ => E) (tCons (tVar 0) (tCons (tC (.int 6)) (tNil)))) (tC (.int 30))) (tOp (rPlus K) (tOp (rMinus) (tVar 5) (tVar 6)) (tC (.int 1))))) (gName 7)) (tSeq (tIfS (tAnd (tTest (tOp (rSame K) (tOp (rRest) (tVar 2) (tC (.int 3))) (tC (.int 1)))) (tTest (tOp (rSame K) (tOp (rRest) (tOp (rFloor) (tVar 2) (tC (.int 18))) (tC (.int 2))) (tC (.int 0))))) (tAsg (tC (.int 0)) (gName 7)) (tNext)) (tSeq (tAsg (tFun (sp_Ltext K) [] (fun _ => E) (tCons (tVar 0) (tCons (tC (.int 8)) (tCons (tVar 5) (tNil))))) (gName 8)) (tSeq (tIfS (tTest (tOp (rSame K) (tOp (rRest) (tVar 2) (tC (.int 48))) (tC (.int 1)))) (tSeq (tPar3 1 6 7 (tCons (tSl (rSlL K) (tVar 1) (tNoPart) (tPart (tC (.int 1)))) (tCons (tC (.int 0)) (tCons (tC (.int 0)) (tNil))))) (tAsg (tSl (rSlL K) (tOp (rTimes) (tFun (sp_Ltext K) [] (fun _ => E) (tCons (tVar 0) (tCons (tC (.int 8)) (tCons (tC (.int 35)) (tNil))))) (tC (.int 2))) (tNoPart) (tPart (tOp (rPlus K) (tC (.int 66)) (tOp (rRest) (tOp (rFloor) (tVar 2) (tC (.int 48))) (tC (.int 5)))))) (gName 8))) (tNext)) (tSeq (tAsg (tNew (He.ga K "Foreteller") (sp_Foreteller_init K) [] (fun _ => E) (tCons (tCB (rListOf K) (tCons (tVar 1) (tNil))) (tNil))) (gName 9)) (tSeq (tAsg (tDNewN) (gName 10)) (tSeq (tAsg (tOp (rTimes) (tLst (tCons (tOp (rLsh) (tC (.int 1)) (tC (.int 40))) (tNil))) (tCB (rLength K) (tCons (tVar 1) (tNil)))) (gName 11)) (tSeq (tAsg (tLst (tCons (tSl (rSlL K) (tVar 8) (tNoPart) (tPart (tVar 6))) (tCons (tSl (rSlL K) (tVar 8) (tPart (tVar 6)) (tPart (tVar 7))) (tCons (tSl (rSlL K) (tVar 8) (tPart (tVar 7)) (tNoPart)) (tNil))))) (gName 12)) (tSeq (tIfS (tTest (tOp (rSame K) (tOp (rRest) (tVar 2) (tC (.int 3))) (tC (.int 2)))) (tAsg (tOp (rPlus K) (tVar 12) (tOp (rTimes) (tLst (tCons (tLst (tNil)) (tNil))) (tC (.int 300)))) (gName 12)) (tNext)) (tSeq (tFor (iList K (tVar 12)) (gName 13) (tSeq (tAsg (tFun (sp_Lseen K) [] (fun _ => E) (tCons (tVar 9) (tCons (tVar 1) (tCons (tVar 10) (tCons (tVar 11) (tCons (tVar 13) (tNil))))))) (gName 11)) (tIfS (tTest (tOp (rIsNo) (tVar 11) (tC .non))) (tRet (tC (.bl false))) (tNext)))) (tRet (tAndV (tOp (rSame K) (tMth "node" (one (He.ga K "Foreteller") (sp_Foreteller_node K)) (fun _ => E) (tVar 9) (tNil)) (tC (.int 0))) (tOp (rSame K) (tMth "signs" (one (He.ga K "Foreteller") (sp_Foreteller_signs K)) (fun _ => E) (tVar 9) (tNil)) (tLst (tNil)))))))))))))))))) ⟨nx, Q, bk, ct⟩ [some (.ref sc), some (.ref l), some (.int way), some (.int most), u4, none, none, none, none, none, none, none, none, none] H := by
  refine Bx.out ?_
  simp (disch := with_unfolding_all
  have tail := fun {m x1 : Nat} => law8 (K := K) (sc := sc) (l := l) (way := way) (m := m) (x1 := x1) (u3 := some (.int most)) (u4 := u4) (H := H) (cs := cs) (las := las) (ks := ks) (nx := nx) (bk := bk) (ct := ct) (Q := Q) (E := E) hs L ok
  have t0 := fun {m : Nat} => tail (m := m) (x1 := 0)
  generalize (tSeq (tAsg (tOp (rPlus K) (tVar 6) (tOp (rRest) (tOp (rFloor) (tFun (sp_Lcell_at K) [] (fun _ => E) (tCons (tVar 0) (tCons (tC (.int 6)) (tNil)))) (tC (.int 30))) (tOp (rPlus K) (tOp (rMinus) (tVar 5) (tVar 6)) (tC (.int 1))))) (gName 7)) (tSeq (tIfS (tAnd (tTest (tOp (rSame K) (tOp (rRest) (tVar 2) (tC (.int 3))) (tC (.int 1)))) (tTest (tOp (rSame K) (tOp (rRest) (tOp (rFloor) (tVar 2) (tC (.int 18))) (tC (.int 2))) (tC (.int 0))))) (tAsg (tC (.int 0)) (gName 7)) (tNext)) (tSeq (tAsg (tFun (sp_Ltext K) [] (fun _ => E) (tCons (tVar 0) (tCons (tC (.int 8)) (tCons (tVar 5) (tNil))))) (gName 8)) (tSeq (tIfS (tTest (tOp (rSame K) (tOp (rRest) (tVar 2) (tC (.int 48))) (tC (.int 1)))) (tSeq (tPar3 1 6 7 (tCons (tSl (rSlL K) (tVar 1) (tNoPart) (tPart (tC (.int 1)))) (tCons (tC (.int 0)) (tCons (tC (.int 0)) (tNil))))) (tAsg (tSl (rSlL K) (tOp (rTimes) (tFun (sp_Ltext K) [] (fun _ => E) (tCons (tVar 0) (tCons (tC (.int 8)) (tCons (tC (.int 35)) (tNil))))) (tC (.int 2))) (tNoPart) (tPart (tOp (rPlus K) (tC (.int 66)) (tOp (rRest) (tOp (rFloor) (tVar 2) (tC (.int 48))) (tC (.int 5)))))) (gName 8))) (tNext)) (tSeq (tAsg (tNew (He.ga K "Foreteller") (sp_Foreteller_init K) [] (fun _ => E) (tCons (tCB (rListOf K) (tCons (tVar 1) (tNil))) (tNil))) (gName 9)) (tSeq (tAsg (tDNewN) (gName 10)) (tSeq (tAsg (tOp (rTimes) (tLst (tCons (tOp (rLsh) (tC (.int 1)) (tC (.int 40))) (tNil))) (tCB (rLength K) (tCons (tVar 1) (tNil)))) (gName 11)) (tSeq (tAsg (tLst (tCons (tSl (rSlL K) (tVar 8) (tNoPart) (tPart (tVar 6))) (tCons (tSl (rSlL K) (tVar 8) (tPart (tVar 6)) (tPart (tVar 7))) (tCons (tSl (rSlL K) (tVar 8) (tPart (tVar 7)) (tNoPart)) (tNil))))) (gName 12)) (tSeq (tIfS (tTest (tOp (rSame K) (tOp (rRest) (tVar 2) (tC (.int 3))) (tC (.int 2)))) (tAsg (tOp (rPlus K) (tVar 12) (tOp (rTimes) (tLst (tCons (tLst (tNil)) (tNil))) (tC (.int 300)))) (gName 12)) (tNext)) (tSeq (tFor (iList K (tVar 12)) (gName 13) (tSeq (tAsg (tFun (sp_Lseen K) [] (fun _ => E) (tCons (tVar 9) (tCons (tVar 1) (tCons (tVar 10) (tCons (tVar 11) (tCons (tVar 13) (tNil))))))) (gName 11)) (tIfS (tTest (tOp (rIsNo) (tVar 11) (tC .non))) (tRet (tC (.bl false))) (tNext)))) (tRet (tAndV (tOp (rSame K) (tMth "node" (one (He.ga K "Foreteller") (sp_Foreteller_node K)) (fun _ => E) (tVar 9) (tNil)) (tC (.int 0))) (tOp (rSame K) (tMth "signs" (one (He.ga K "Foreteller") (sp_Foreteller_signs K)) (fun _ => E) (tVar 9) (tNil)) (tLst (tNil))))))))))))))) = R8 at tail t0 ⊢
  walk_at "go"
  rw [List.length_map]
  obtain ⟨m, em, n1, n2⟩ := clip25 (n := cs.length) (c := most) m1
  rw [em]
  clear em
  walk_at "go"
  refine ⟨sc, cs, 6, rfl, rfl, hs, ?_⟩
  walk_at "go"
  refine g_rest (by omega) ?_
  generalize cell cs 6 % 1000000000000000000000000000000 = c6
  obtain ⟨x1, e1, b1⟩ : ∃ c : Nat, c6 / 5 % ((m : Int) + 1) = (c : Int) ∧ c ≤ m := ⟨(c6 / 5 % ((m : Int) + 1)).toNat, by
    have := Int.emod_nonneg (c6 / 5) (show ((m : Int) + 1) ≠ 0 by omega)
    omega, by
    have := Int.emod_lt_of_pos (c6 / 5) (show 0 < (m : Int) + 1 by omega)
    omega⟩
  rw [e1]
  clear e1
  walk_at "go"
  refine dif (fun c => ?_) fun c => ?_
  · walk_at "go"
    refine dif (fun c => ?_) fun c => ?_
    · walk_at "go"
      exact t0 (by omega) (Nat.zero_le _) q
    · refine g_next ?_
      exact tail (by omega) b1 q
  · refine g_next ?_
    exact tail (by omega) b1 q
  ) only [↓Bx.eq]
theorem law4 {sc l : Addr} {way most : Int} {u4 : Option V} {H : Hp} {cs : List Int} {las : List Addr} {ks : List Lk} {nx bk ct : St → Hp → Prop} {Q : VK} {E : XK} (hs : SqL K H sc (cs.map V.int))
    (L : LooksH H l las ks) (ok : LksOk ks) (m1 : 1 ≤ most) (m55 : most ≤ 55) (q : ∀ H', Q (.bl true) H') :
    (tSeq (tIfS (tTest (tOp (rSame K) (tOp (rRest) (tVar 2) (tC (.int 3))) (tC (.int 2)))) (tAsg (tSl (rSlL K) (tVar 1) (tNoPart) (tPart (tC (.int 2)))) (gName 1)) (tNext)) (tSeq (tAsg (tCB (rLeast K) (tCons (tVar 3) (tCons (tCB (rGreatest K) (tCons (tC (.int 1)) (tCons (tOp (rMinus) (tCB (rLength K) (tCons (tVar 0) (tNil))) (tC (.int 8))) (tNil)))) (tNil)))) (gName 5)) (tSeq (tAsg (tOp (rRest) (tOp (rFloor) (tFun (sp_Lcell_at K) [] (fun _ => E) (tCons (tVar 0) (tCons (tC (.int 6)) (tNil)))) (tC (.int 5))) (tOp (rPlus K) (tVar 5) (tC (.int 1)))) (gName 6)) (tSeq (tIfS (tAnd (tTest (tOp (rSame K) (tOp (rRest) (tVar 2) (tC (.int 3))) (tC (.int 1)))) (tTest (tOp (rSame K) (tOp (rRest) (tOp (rFloor) (tVar 2) (tC (.int 18))) (tC (.int 2))) (tC (.int 0))))) (tAsg (tC (.int 0)) (gName 6)) (tNext)) (tSeq (tAsg (tOp (rPlus K) (tVar 6) (tOp (rRest) (tOp (rFloor) (tFun (sp_Lcell_at K) [] (fun _ => E) (tCons (tVar 0) (tCons (tC (.int 6)) (tNil)))) (tC (.int 30))) (tOp (rPlus K) (tOp (rMinus) (tVar 5) (tVar 6)) (tC (.int 1))))) (gName 7)) (tSeq (tIfS (tAnd (tTest (tOp (rSame K) (tOp (rRest) (tVar 2) (tC (.int 3))) (tC (.int 1)))) (tTest (tOp (rSame K) (tOp (rRest) (tOp (rFloor) (tVar 2) (tC (.int 18))) (tC (.int 2))) (tC (.int 0))))) (tAsg (tC (.int 0)) (gName 7)) (tNext)) (tSeq (tAsg (tFun (sp_Ltext K) [] (fun _ => E) (tCons (tVar 0) (tCons (tC (.int 8)) (tCons (tVar 5) (tNil))))) (gName 8)) (tSeq (tIfS (tTest (tOp (rSame K) (tOp (rRest) (tVar 2) (tC (.int 48))) (tC (.int 1)))) (tSeq (tPar3 1 6 7 (tCons (tSl (rSlL K) (tVar 1) (tNoPart) (tPart (tC (.int 1)))) (tCons (tC (.int 0)) (tCons (tC (.int 0)) (tNil))))) (tAsg (tSl (rSlL K) (tOp (rTimes) (tFun (sp_Ltext K) [] (fun _ => E) (tCons (tVar 0) (tCons (tC (.int 8)) (tCons (tC (.int 35)) (tNil))))) (tC (.int 2))) (tNoPart) (tPart (tOp (rPlus K) (tC (.int 66)) (tOp (rRest) (tOp (rFloor) (tVar 2) (tC (.int 48))) (tC (.int 5)))))) (gName 8))) (tNext)) (tSeq (tAsg (tNew (He.ga K "Foreteller") (sp_Foreteller_init K) [] (fun _ => E) (tCons (tCB (rListOf K) (tCons (tVar 1) (tNil))) (tNil))) (gName 9)) (tSeq (tAsg (tDNewN) (gName 10)) (tSeq (tAsg (tOp (rTimes) (tLst (tCons (tOp (rLsh) (tC (.int 1)) (tC (.int 40))) (tNil))) (tCB (rLength K) (tCons (tVar 1) (tNil)))) (gName 11)) (tSeq (tAsg (tLst (tCons (tSl (rSlL K) (tVar 8) (tNoPart) (tPart (tVar 6))) (tCons (tSl (rSlL K) (tVar 8) (tPart (tVar 6)) (tPart (tVar 7))) (tCons (tSl (rSlL K) (tVar 8) (tPart (tVar 7)) (tNoPart)) (tNil))))) (gName 12)) (tSeq (tIfS (tTest (tOp (rSame K) (tOp (rRest) (tVar 2) (tC (.int 3))) (tC (.int 2)))) (tAsg (tOp (rPlus K) (tVar 12) (tOp (rTimes) (tLst (tCons (tLst (tNil)) (tNil))) (tC (.int 300)))) (gName 12)) (tNext)) (tSeq (tFor (iList K (tVar 12)) (gName 13) (tSeq (tAsg (tFun (sp_Lseen K) [] (fun _ => E) (tCons (tVar 9) (tCons (tVar 1) (tCons (tVar 10) (tCons (tVar 11) (tCons (tVar 13) (tNil))))))) (gName 11)) (tIfS (tTest (tOp (rIsNo) (tVar 11) (tC .non))) (tRet (tC (.bl false))) (tNext)))) (tRet (tAndV (tOp (rSame K) (tMth "node" (one (He.ga K "Foreteller") (sp_Foreteller_node K)) (fun _ => E) (tVar 9) (tNil)) (tC (.int 0))) (tOp (rSame K) (tMth "signs" (one (He.ga K "Foreteller") (sp_Foreteller_signs K)) (fun _ => E) (tVar 9) (tNil)) (tLst (tNil))))))))))))))))))) ⟨nx, Q, bk, ct⟩ [some (.ref sc), some (.ref l), some (.int way), some (.int most), u4, none, none, none, none, none, none, none, none, none] H := by
  refine Bx.out ?_
  simp (disch := with_unfolding_all
  have tail := fun {l : Addr} {H : Hp} {las : List Addr} {ks : List Lk} => law5 (K := K) (sc := sc) (l := l) (way := way) (most := most) (u4 := u4) (H := H) (cs := cs) (las := las) (ks := ks) (nx := nx) (bk := bk) (ct := ct) (Q := Q) (E := E)
  generalize (tSeq (tAsg (tCB (rLeast K) (tCons (tVar 3) (tCons (tCB (rGreatest K) (tCons (tC (.int 1)) (tCons (tOp (rMinus) (tCB (rLength K) (tCons (tVar 0) (tNil))) (tC (.int 8))) (tNil)))) (tNil)))) (gName 5)) (tSeq (tAsg (tOp (rRest) (tOp (rFloor) (tFun (sp_Lcell_at K) [] (fun _ => E) (tCons (tVar 0) (tCons (tC (.int 6)) (tNil)))) (tC (.int 5))) (tOp (rPlus K) (tVar 5) (tC (.int 1)))) (gName 6)) (tSeq (tIfS (tAnd (tTest (tOp (rSame K) (tOp (rRest) (tVar 2) (tC (.int 3))) (tC (.int 1)))) (tTest (tOp (rSame K) (tOp (rRest) (tOp (rFloor) (tVar 2) (tC (.int 18))) (tC (.int 2))) (tC (.int 0))))) (tAsg (tC (.int 0)) (gName 6)) (tNext)) (tSeq (tAsg (tOp (rPlus K) (tVar 6) (tOp (rRest) (tOp (rFloor) (tFun (sp_Lcell_at K) [] (fun _ => E) (tCons (tVar 0) (tCons (tC (.int 6)) (tNil)))) (tC (.int 30))) (tOp (rPlus K) (tOp (rMinus) (tVar 5) (tVar 6)) (tC (.int 1))))) (gName 7)) (tSeq (tIfS (tAnd (tTest (tOp (rSame K) (tOp (rRest) (tVar 2) (tC (.int 3))) (tC (.int 1)))) (tTest (tOp (rSame K) (tOp (rRest) (tOp (rFloor) (tVar 2) (tC (.int 18))) (tC (.int 2))) (tC (.int 0))))) (tAsg (tC (.int 0)) (gName 7)) (tNext)) (tSeq (tAsg (tFun (sp_Ltext K) [] (fun _ => E) (tCons (tVar 0) (tCons (tC (.int 8)) (tCons (tVar 5) (tNil))))) (gName 8)) (tSeq (tIfS (tTest (tOp (rSame K) (tOp (rRest) (tVar 2) (tC (.int 48))) (tC (.int 1)))) (tSeq (tPar3 1 6 7 (tCons (tSl (rSlL K) (tVar 1) (tNoPart) (tPart (tC (.int 1)))) (tCons (tC (.int 0)) (tCons (tC (.int 0)) (tNil))))) (tAsg (tSl (rSlL K) (tOp (rTimes) (tFun (sp_Ltext K) [] (fun _ => E) (tCons (tVar 0) (tCons (tC (.int 8)) (tCons (tC (.int 35)) (tNil))))) (tC (.int 2))) (tNoPart) (tPart (tOp (rPlus K) (tC (.int 66)) (tOp (rRest) (tOp (rFloor) (tVar 2) (tC (.int 48))) (tC (.int 5)))))) (gName 8))) (tNext)) (tSeq (tAsg (tNew (He.ga K "Foreteller") (sp_Foreteller_init K) [] (fun _ => E) (tCons (tCB (rListOf K) (tCons (tVar 1) (tNil))) (tNil))) (gName 9)) (tSeq (tAsg (tDNewN) (gName 10)) (tSeq (tAsg (tOp (rTimes) (tLst (tCons (tOp (rLsh) (tC (.int 1)) (tC (.int 40))) (tNil))) (tCB (rLength K) (tCons (tVar 1) (tNil)))) (gName 11)) (tSeq (tAsg (tLst (tCons (tSl (rSlL K) (tVar 8) (tNoPart) (tPart (tVar 6))) (tCons (tSl (rSlL K) (tVar 8) (tPart (tVar 6)) (tPart (tVar 7))) (tCons (tSl (rSlL K) (tVar 8) (tPart (tVar 7)) (tNoPart)) (tNil))))) (gName 12)) (tSeq (tIfS (tTest (tOp (rSame K) (tOp (rRest) (tVar 2) (tC (.int 3))) (tC (.int 2)))) (tAsg (tOp (rPlus K) (tVar 12) (tOp (rTimes) (tLst (tCons (tLst (tNil)) (tNil))) (tC (.int 300)))) (gName 12)) (tNext)) (tSeq (tFor (iList K (tVar 12)) (gName 13) (tSeq (tAsg (tFun (sp_Lseen K) [] (fun _ => E) (tCons (tVar 9) (tCons (tVar 1) (tCons (tVar 10) (tCons (tVar 11) (tCons (tVar 13) (tNil))))))) (gName 11)) (tIfS (tTest (tOp (rIsNo) (tVar 11) (tC .non))) (tRet (tC (.bl false))) (tNext)))) (tRet (tAndV (tOp (rSame K) (tMth "node" (one (He.ga K "Foreteller") (sp_Foreteller_node K)) (fun _ => E) (tVar 9) (tNil)) (tC (.int 0))) (tOp (rSame K) (tMth "signs" (one (He.ga K "Foreteller") (sp_Foreteller_signs K)) (fun _ => E) (tVar 9) (tNil)) (tLst (tNil)))))))))))))))))) = R5 at tail ⊢
  have hl := L.lst
  walk_at "go"
  refine dif (fun c => ?_) fun c => ?_
  · walk_at "go"
    intro c1 n1
    walk_at "go"
    exact tail ((same_new (Same.refl _) n1).seq hs) (L.take25 (m := 2) n1) (ok.take25 (by decide)) m1 m55 q
  · refine g_next ?_
    exact tail hs L ok m1 m55 q
  ) only [↓Bx.eq]
theorem six25 {H : Hp} {p1 p2 p3 p4 p5 p6 : Addr} {i : Int} (h1 : H p1 = some (.tup [.int 6])) (h2 : H p2 = some (.tup [.int 8])) (h3 : H p3 = some (.tup [.int 5, .int 7])) (h4 : H p4 = some (.tup [.int 7])) (h5 : H p5 = some (.tup [.int 1, .int 6, .int 8])) (h6 : H p6 = some (.tup [.int 5, .int 6, .int 7, .int 8])) :
    ∃ (p : Addr) (ps : List Int), atI [V.ref p1, .ref p2, .ref p3, .ref p4, .ref p5, .ref p6] (i % 6) = some (.ref p) ∧ H p = some (.tup (ps.map V.int)) ∧ Plc ps := by
  have e : i % 6 = 0 ∨ i % 6 = 1 ∨ i % 6 = 2 ∨ i % 6 = 3 ∨ i % 6 = 4 ∨ i % 6 = 5 := by omega
  rcases e with e | e | e | e | e | e <;> rw [e]
  · exact ⟨p1, [6], rfl, h1, ⟨by decide, by decide, by decide⟩⟩
  · exact ⟨p2, [8], rfl, h2, ⟨by decide, by decide, by decide⟩⟩
  · exact ⟨p3, [5, 7], rfl, h3, ⟨by decide, by decide, by decide⟩⟩
  · exact ⟨p4, [7], rfl, h4, ⟨by decide, by decide, by decide⟩⟩
  · exact ⟨p5, [1, 6, 8], rfl, h5, ⟨by decide, by decide, by decide⟩⟩
  · exact ⟨p6, [5, 6, 7, 8], rfl, h6, ⟨by decide, by decide, by decide⟩⟩
theorem law3 {sc l : Addr} {way : Int} {H : Hp} {cs : List Int} {las : List Addr} {ks : List Lk} {nx bk ct : St → Hp → Prop} {Q : VK} {E : XK} (hs : SqL K H sc (cs.map V.int))
    (L : LooksH H l las ks) (ok : LksOk ks) (q : ∀ H', Q (.bl true) H') :
    (tSeq (tIfS (tTest (tOp (rSame K) (tOp (rRest) (tVar 2) (tC (.int 3))) (tC (.int 1)))) (tSeq (tAsg (tTup (tCons (tOp (rIx K) (tOp (rIx K) (tVar 1) (tC (.int 0))) (tC (.int 0))) (tCons (tOp (rIx K) (tLst (tCons (tTup (tCons (tC (.int 6)) (tNil))) (tCons (tTup (tCons (tC (.int 8)) (tNil))) (tCons (tTup (tCons (tC (.int 5)) (tCons (tC (.int 7)) (tNil)))) (tCons (tTup (tCons (tC (.int 7)) (tNil))) (tCons (tTup (tCons (tC (.int 1)) (tCons (tC (.int 6)) (tCons (tC (.int 8)) (tNil))))) (tCons (tTup (tCons (tC (.int 5)) (tCons (tC (.int 6)) (tCons (tC (.int 7)) (tCons (tC (.int 8)) (tNil)))))) (tNil)))))))) (tOp (rRest) (tOp (rFloor) (tVar 2) (tC (.int 3))) (tC (.int 6)))) (tNil)))) (gName 4)) (tSeq (tAsg (tSl (rSlL K) (tLst (tCons (tVar 4) (tCons (tOp (rIx K) (tVar 1) (tC (.int 0))) (tNil)))) (tNoPart) (tPart (tOp (rPlus K) (tC (.int 1)) (tOp (rRest) (tOp (rFloor) (tVar 2) (tC (.int 72))) (tC (.int 2)))))) (gName 1)) (tAsg (tOp (rIx K) (tLst (tCons (tC (.int 14)) (tCons (tC (.int 55)) (tNil)))) (tOp (rRest) (tOp (rFloor) (tVar 2) (tC (.int 36))) (tC (.int 2)))) (gName 3)))) (tNext)) (tSeq (tIfS (tTest (tOp (rSame K) (tOp (rRest) (tVar 2) (tC (.int 3))) (tC (.int 2)))) (tAsg (tSl (rSlL K) (tVar 1) (tNoPart) (tPart (tC (.int 2)))) (gName 1)) (tNext)) (tSeq (tAsg (tCB (rLeast K) (tCons (tVar 3) (tCons (tCB (rGreatest K) (tCons (tC (.int 1)) (tCons (tOp (rMinus) (tCB (rLength K) (tCons (tVar 0) (tNil))) (tC (.int 8))) (tNil)))) (tNil)))) (gName 5)) (tSeq (tAsg (tOp (rRest) (tOp (rFloor) (tFun (sp_Lcell_at K) [] (fun _ => E) (tCons (tVar 0) (tCons (tC (.int 6)) (tNil)))) (tC (.int 5))) (tOp (rPlus K) (tVar 5) (tC (.int 1)))) (gName 6)) (tSeq (tIfS (tAnd (tTest (tOp (rSame K) (tOp (rRest) (tVar 2) (tC (.int 3))) (tC (.int 1)))) (tTest (tOp (rSame K) (tOp (rRest) (tOp (rFloor) (tVar 2) (tC (.int 18))) (tC (.int 2))) (tC (.int 0))))) (tAsg (tC (.int 0)) (gName 6)) (tNext)) (tSeq (tAsg (tOp (rPlus K) (tVar 6) (tOp (rRest) (tOp (rFloor) (tFun (sp_Lcell_at K) [] (fun _ => E) (tCons (tVar 0) (tCons (tC (.int 6)) (tNil)))) (tC (.int 30))) (tOp (rPlus K) (tOp (rMinus) (tVar 5) (tVar 6)) (tC (.int 1))))) (gName 7)) (tSeq (tIfS (tAnd (tTest (tOp (rSame K) (tOp (rRest) (tVar 2) (tC (.int 3))) (tC (.int 1)))) (tTest (tOp (rSame K) (tOp (rRest) (tOp (rFloor) (tVar 2) (tC (.int 18))) (tC (.int 2))) (tC (.int 0))))) (tAsg (tC (.int 0)) (gName 7)) (tNext)) (tSeq (tAsg (tFun (sp_Ltext K) [] (fun _ => E) (tCons (tVar 0) (tCons (tC (.int 8)) (tCons (tVar 5) (tNil))))) (gName 8)) (tSeq (tIfS (tTest (tOp (rSame K) (tOp (rRest) (tVar 2) (tC (.int 48))) (tC (.int 1)))) (tSeq (tPar3 1 6 7 (tCons (tSl (rSlL K) (tVar 1) (tNoPart) (tPart (tC (.int 1)))) (tCons (tC (.int 0)) (tCons (tC (.int 0)) (tNil))))) (tAsg (tSl (rSlL K) (tOp (rTimes) (tFun (sp_Ltext K) [] (fun _ => E) (tCons (tVar 0) (tCons (tC (.int 8)) (tCons (tC (.int 35)) (tNil))))) (tC (.int 2))) (tNoPart) (tPart (tOp (rPlus K) (tC (.int 66)) (tOp (rRest) (tOp (rFloor) (tVar 2) (tC (.int 48))) (tC (.int 5)))))) (gName 8))) (tNext)) (tSeq (tAsg (tNew (He.ga K "Foreteller") (sp_Foreteller_init K) [] (fun _ => E) (tCons (tCB (rListOf K) (tCons (tVar 1) (tNil))) (tNil))) (gName 9)) (tSeq (tAsg (tDNewN) (gName 10)) (tSeq (tAsg (tOp (rTimes) (tLst (tCons (tOp (rLsh) (tC (.int 1)) (tC (.int 40))) (tNil))) (tCB (rLength K) (tCons (tVar 1) (tNil)))) (gName 11)) (tSeq (tAsg (tLst (tCons (tSl (rSlL K) (tVar 8) (tNoPart) (tPart (tVar 6))) (tCons (tSl (rSlL K) (tVar 8) (tPart (tVar 6)) (tPart (tVar 7))) (tCons (tSl (rSlL K) (tVar 8) (tPart (tVar 7)) (tNoPart)) (tNil))))) (gName 12)) (tSeq (tIfS (tTest (tOp (rSame K) (tOp (rRest) (tVar 2) (tC (.int 3))) (tC (.int 2)))) (tAsg (tOp (rPlus K) (tVar 12) (tOp (rTimes) (tLst (tCons (tLst (tNil)) (tNil))) (tC (.int 300)))) (gName 12)) (tNext)) (tSeq (tFor (iList K (tVar 12)) (gName 13) (tSeq (tAsg (tFun (sp_Lseen K) [] (fun _ => E) (tCons (tVar 9) (tCons (tVar 1) (tCons (tVar 10) (tCons (tVar 11) (tCons (tVar 13) (tNil))))))) (gName 11)) (tIfS (tTest (tOp (rIsNo) (tVar 11) (tC .non))) (tRet (tC (.bl false))) (tNext)))) (tRet (tAndV (tOp (rSame K) (tMth "node" (one (He.ga K "Foreteller") (sp_Foreteller_node K)) (fun _ => E) (tVar 9) (tNil)) (tC (.int 0))) (tOp (rSame K) (tMth "signs" (one (He.ga K "Foreteller") (sp_Foreteller_signs K)) (fun _ => E) (tVar 9) (tNil)) (tLst (tNil)))))))))))))))))))) ⟨nx, Q, bk, ct⟩ [some (.ref sc), some (.ref l), some (.int way), some (.int 5), none, none, none, none, none, none, none, none, none, none] H := by
  refine Bx.out ?_
  simp (disch := with_unfolding_all
  have tail := fun {l : Addr} {most : Int} {u4 : Option V} {H : Hp} {las : List Addr} {ks : List Lk} => law4 (K := K) (sc := sc) (l := l) (way := way) (most := most) (u4 := u4) (H := H) (cs := cs) (las := las) (ks := ks) (nx := nx) (bk := bk) (ct := ct) (Q := Q) (E := E)
  generalize (tSeq (tIfS (tTest (tOp (rSame K) (tOp (rRest) (tVar 2) (tC (.int 3))) (tC (.int 2)))) (tAsg (tSl (rSlL K) (tVar 1) (tNoPart) (tPart (tC (.int 2)))) (gName 1)) (tNext)) (tSeq (tAsg (tCB (rLeast K) (tCons (tVar 3) (tCons (tCB (rGreatest K) (tCons (tC (.int 1)) (tCons (tOp (rMinus) (tCB (rLength K) (tCons (tVar 0) (tNil))) (tC (.int 8))) (tNil)))) (tNil)))) (gName 5)) (tSeq (tAsg (tOp (rRest) (tOp (rFloor) (tFun (sp_Lcell_at K) [] (fun _ => E) (tCons (tVar 0) (tCons (tC (.int 6)) (tNil)))) (tC (.int 5))) (tOp (rPlus K) (tVar 5) (tC (.int 1)))) (gName 6)) (tSeq (tIfS (tAnd (tTest (tOp (rSame K) (tOp (rRest) (tVar 2) (tC (.int 3))) (tC (.int 1)))) (tTest (tOp (rSame K) (tOp (rRest) (tOp (rFloor) (tVar 2) (tC (.int 18))) (tC (.int 2))) (tC (.int 0))))) (tAsg (tC (.int 0)) (gName 6)) (tNext)) (tSeq (tAsg (tOp (rPlus K) (tVar 6) (tOp (rRest) (tOp (rFloor) (tFun (sp_Lcell_at K) [] (fun _ => E) (tCons (tVar 0) (tCons (tC (.int 6)) (tNil)))) (tC (.int 30))) (tOp (rPlus K) (tOp (rMinus) (tVar 5) (tVar 6)) (tC (.int 1))))) (gName 7)) (tSeq (tIfS (tAnd (tTest (tOp (rSame K) (tOp (rRest) (tVar 2) (tC (.int 3))) (tC (.int 1)))) (tTest (tOp (rSame K) (tOp (rRest) (tOp (rFloor) (tVar 2) (tC (.int 18))) (tC (.int 2))) (tC (.int 0))))) (tAsg (tC (.int 0)) (gName 7)) (tNext)) (tSeq (tAsg (tFun (sp_Ltext K) [] (fun _ => E) (tCons (tVar 0) (tCons (tC (.int 8)) (tCons (tVar 5) (tNil))))) (gName 8)) (tSeq (tIfS (tTest (tOp (rSame K) (tOp (rRest) (tVar 2) (tC (.int 48))) (tC (.int 1)))) (tSeq (tPar3 1 6 7 (tCons (tSl (rSlL K) (tVar 1) (tNoPart) (tPart (tC (.int 1)))) (tCons (tC (.int 0)) (tCons (tC (.int 0)) (tNil))))) (tAsg (tSl (rSlL K) (tOp (rTimes) (tFun (sp_Ltext K) [] (fun _ => E) (tCons (tVar 0) (tCons (tC (.int 8)) (tCons (tC (.int 35)) (tNil))))) (tC (.int 2))) (tNoPart) (tPart (tOp (rPlus K) (tC (.int 66)) (tOp (rRest) (tOp (rFloor) (tVar 2) (tC (.int 48))) (tC (.int 5)))))) (gName 8))) (tNext)) (tSeq (tAsg (tNew (He.ga K "Foreteller") (sp_Foreteller_init K) [] (fun _ => E) (tCons (tCB (rListOf K) (tCons (tVar 1) (tNil))) (tNil))) (gName 9)) (tSeq (tAsg (tDNewN) (gName 10)) (tSeq (tAsg (tOp (rTimes) (tLst (tCons (tOp (rLsh) (tC (.int 1)) (tC (.int 40))) (tNil))) (tCB (rLength K) (tCons (tVar 1) (tNil)))) (gName 11)) (tSeq (tAsg (tLst (tCons (tSl (rSlL K) (tVar 8) (tNoPart) (tPart (tVar 6))) (tCons (tSl (rSlL K) (tVar 8) (tPart (tVar 6)) (tPart (tVar 7))) (tCons (tSl (rSlL K) (tVar 8) (tPart (tVar 7)) (tNoPart)) (tNil))))) (gName 12)) (tSeq (tIfS (tTest (tOp (rSame K) (tOp (rRest) (tVar 2) (tC (.int 3))) (tC (.int 2)))) (tAsg (tOp (rPlus K) (tVar 12) (tOp (rTimes) (tLst (tCons (tLst (tNil)) (tNil))) (tC (.int 300)))) (gName 12)) (tNext)) (tSeq (tFor (iList K (tVar 12)) (gName 13) (tSeq (tAsg (tFun (sp_Lseen K) [] (fun _ => E) (tCons (tVar 9) (tCons (tVar 1) (tCons (tVar 10) (tCons (tVar 11) (tCons (tVar 13) (tNil))))))) (gName 11)) (tIfS (tTest (tOp (rIsNo) (tVar 11) (tC .non))) (tRet (tC (.bl false))) (tNext)))) (tRet (tAndV (tOp (rSame K) (tMth "node" (one (He.ga K "Foreteller") (sp_Foreteller_node K)) (fun _ => E) (tVar 9) (tNil)) (tC (.int 0))) (tOp (rSame K) (tMth "signs" (one (He.ga K "Foreteller") (sp_Foreteller_signs K)) (fun _ => E) (tVar 9) (tNil)) (tLst (tNil))))))))))))))))))) = R4 at tail ⊢
  have hl := L.lst
  have l1 := ok.l1
  have ll := L.len
  have hk : ks[0]? = some (ks[0]'(by omega)) := List.getElem?_eq_getElem (by omega)
  have ha : las[0]? = some (las[0]'(by omega)) := List.getElem?_eq_getElem (by omega)
  generalize ks[0]'(by omega) = k at hk
  generalize las[0]'(by omega) = la at ha
  obtain ⟨lb, f1, f2⟩ := L.at_ 0 la k ha hk
  have kok := ok.all k (List.mem_of_getElem? hk)
  have ixl : atI (las.map V.ref) 0 = some (.ref la) := ix_ref (k := 0) ha
  walk_at "go"
  refine dif (fun c => ?_) fun c => ?_
  · walk_at "gn"
    rename_i p1 n1 p2 n2 p3 n3 p4 n4 p5 n5 p6 n6 t nt
    generalize hB : upd _ t _ = H1
    have s1 : Same H H1 := by rw [← hB]; walk_at "sm"
    have et : H1 t = some (.lst [.ref p1, .ref p2, .ref p3, .ref p4, .ref p5, .ref p6]) := by rw [← hB]; exact upd_same
    have h1 : H1 p1 = some (.tup [.int 6]) := by rw [← hB]; walk_at "lk"
    have h2 : H1 p2 = some (.tup [.int 8]) := by rw [← hB]; walk_at "lk"
    have h3 : H1 p3 = some (.tup [.int 5, .int 7]) := by rw [← hB]; walk_at "lk"
    have h4 : H1 p4 = some (.tup [.int 7]) := by rw [← hB]; walk_at "lk"
    have h5 : H1 p5 = some (.tup [.int 1, .int 6, .int 8]) := by rw [← hB]; walk_at "lk"
    have h6 : H1 p6 = some (.tup [.int 5, .int 6, .int 7, .int 8]) := by rw [← hB]; walk_at "lk"
    clear hB nt n1 n2 n3 n4 n5 n6
    obtain ⟨p, ps, ex, ep, P⟩ := six25 (i := way / 3) h1 h2 h3 h4 h5 h6
    refine g_ixL (sq_of et) ex ?_
    clear h1 h2 h3 h4 h5 h6 et ex
    have hl1 := s1 _ _ hl
    have f11 := s1 _ _ f1
    walk_at "go"
    intro fa nfa
    have s2 := same_new (u := .tup [.str k.1, .ref p]) s1 nfa
    have ef : LookH (upd H1 fa (.tup [.str k.1, .ref p])) fa (k.1, ps) := ⟨p, upd_same, lk_new ep nfa⟩
    have hl2 := lk_new (u := .tup [.str k.1, .ref p]) hl1 nfa
    generalize upd H1 fa (.tup [.str k.1, .ref p]) = H2 at s2 ef hl2 ⊢
    walk_at "go"
    intro c1 nc1
    have L3 : LooksH (upd H2 c1 (.lst [.ref fa, .ref la])) c1 [fa, la] [(k.1, ps), k] := ⟨upd_same, rfl, fun i x y hx hy => by
      match i, hx, hy with
      | 0, hx, hy => cases hx; cases hy; exact ef.same (same_new (Same.refl _) nc1)
      | 1, hx, hy => cases hx; cases hy; exact (L.at_ 0 la k ha hk).same (same_new s2 nc1)⟩
    have s3 := same_new (u := .lst [.ref fa, .ref la]) s2 nc1
    have ok3 : LksOk [(k.1, ps), k] := ⟨by show 1 ≤ 2; decide, by show 2 ≤ 6; decide, fun k' hk' => by
      rcases List.mem_cons.mp hk' with z | z
      · rw [z]; exact ⟨kok.kind, P⟩
      · rw [List.mem_singleton.mp z]; exact kok⟩
    have ec1 : (upd H2 c1 (.lst [.ref fa, .ref la])) c1 = some (.lst [.ref fa, .ref la]) := upd_same
    generalize upd H2 c1 (.lst [.ref fa, .ref la]) = H3 at s3 L3 ec1 ⊢
    walk_at "go"
    intro c2 nc2
    obtain ⟨m, em, m1⟩ : ∃ m : Nat, 1 + way / 72 % 2 = (m : Int) ∧ 1 ≤ m := ⟨(1 + way / 72 % 2).toNat, by omega, by omega⟩
    rw [em]
    have L4 := L3.take25 (m := m) nc2
    have s4 := same_new (u := .lst (cutV ([fa, la].map V.ref) none (some (m : Int)))) s3 nc2
    have e4 : ([V.ref fa, .ref la] : List V) = [fa, la].map V.ref := rfl
    rw [e4]
    generalize upd H3 c2 (.lst (cutV ([fa, la].map V.ref) none (some (m : Int)))) = H4 at s4 L4 ⊢
    walk_at "go"
    intro c3 nc3
    have hm : ∃ most : Int, atI [V.int 14, .int 55] (way / 36 % 2) = some (.int most) ∧ 1 ≤ most ∧ most ≤ 55 := by
      have : way / 36 % 2 = 0 ∨ way / 36 % 2 = 1 := by omega
      rcases this with e | e <;> rw [e]
      · exact ⟨14, rfl, by decide, by decide⟩
      · exact ⟨55, rfl, by decide, by decide⟩
    obtain ⟨most, eo, o1, o2⟩ := hm
    have s5 := same_new (u := .lst [V.int 14, .int 55]) s4 nc3
    walk_at "go"
    exact tail (s5.seq hs) (L4.same (same_new (Same.refl _) nc3)) (ok3.take25 m1) o1 o2 q
  · refine g_next ?_
    exact tail hs L ok (by decide) (by decide) q
  ) only [↓Bx.eq]
theorem pure_law {x : V} {H : Hp} {Q : VK} {E : XK} (h : F_law K x H Q E) : t_law K E ⟨fun _ H' => Q .non H', Q, fun _ _ => False, fun _ _ => False⟩ [some x, none, none, none, none, none, none, none, none, none, none, none, none, none] H := by
  refine Bx.out ?_
  simp (disch := with_unfolding_all
  obtain ⟨sc, cs, rfl, hs, hcn, q⟩ := h
  unfold t_law
  have tail := fun {l : Addr} {way : Int} {H : Hp} {las : List Addr} {ks : List Lk} {nx bk ct : St → Hp → Prop} => law3 (K := K) (sc := sc) (l := l) (way := way) (H := H) (cs := cs) (las := las) (ks := ks) (nx := nx) (bk := bk) (ct := ct) (Q := Q) (E := E)
  generalize (tSeq (tIfS (tTest (tOp (rSame K) (tOp (rRest) (tVar 2) (tC (.int 3))) (tC (.int 1)))) (tSeq (tAsg (tTup (tCons (tOp (rIx K) (tOp (rIx K) (tVar 1) (tC (.int 0))) (tC (.int 0))) (tCons (tOp (rIx K) (tLst (tCons (tTup (tCons (tC (.int 6)) (tNil))) (tCons (tTup (tCons (tC (.int 8)) (tNil))) (tCons (tTup (tCons (tC (.int 5)) (tCons (tC (.int 7)) (tNil)))) (tCons (tTup (tCons (tC (.int 7)) (tNil))) (tCons (tTup (tCons (tC (.int 1)) (tCons (tC (.int 6)) (tCons (tC (.int 8)) (tNil))))) (tCons (tTup (tCons (tC (.int 5)) (tCons (tC (.int 6)) (tCons (tC (.int 7)) (tCons (tC (.int 8)) (tNil)))))) (tNil)))))))) (tOp (rRest) (tOp (rFloor) (tVar 2) (tC (.int 3))) (tC (.int 6)))) (tNil)))) (gName 4)) (tSeq (tAsg (tSl (rSlL K) (tLst (tCons (tVar 4) (tCons (tOp (rIx K) (tVar 1) (tC (.int 0))) (tNil)))) (tNoPart) (tPart (tOp (rPlus K) (tC (.int 1)) (tOp (rRest) (tOp (rFloor) (tVar 2) (tC (.int 72))) (tC (.int 2)))))) (gName 1)) (tAsg (tOp (rIx K) (tLst (tCons (tC (.int 14)) (tCons (tC (.int 55)) (tNil)))) (tOp (rRest) (tOp (rFloor) (tVar 2) (tC (.int 36))) (tC (.int 2)))) (gName 3)))) (tNext)) (tSeq (tIfS (tTest (tOp (rSame K) (tOp (rRest) (tVar 2) (tC (.int 3))) (tC (.int 2)))) (tAsg (tSl (rSlL K) (tVar 1) (tNoPart) (tPart (tC (.int 2)))) (gName 1)) (tNext)) (tSeq (tAsg (tCB (rLeast K) (tCons (tVar 3) (tCons (tCB (rGreatest K) (tCons (tC (.int 1)) (tCons (tOp (rMinus) (tCB (rLength K) (tCons (tVar 0) (tNil))) (tC (.int 8))) (tNil)))) (tNil)))) (gName 5)) (tSeq (tAsg (tOp (rRest) (tOp (rFloor) (tFun (sp_Lcell_at K) [] (fun _ => E) (tCons (tVar 0) (tCons (tC (.int 6)) (tNil)))) (tC (.int 5))) (tOp (rPlus K) (tVar 5) (tC (.int 1)))) (gName 6)) (tSeq (tIfS (tAnd (tTest (tOp (rSame K) (tOp (rRest) (tVar 2) (tC (.int 3))) (tC (.int 1)))) (tTest (tOp (rSame K) (tOp (rRest) (tOp (rFloor) (tVar 2) (tC (.int 18))) (tC (.int 2))) (tC (.int 0))))) (tAsg (tC (.int 0)) (gName 6)) (tNext)) (tSeq (tAsg (tOp (rPlus K) (tVar 6) (tOp (rRest) (tOp (rFloor) (tFun (sp_Lcell_at K) [] (fun _ => E) (tCons (tVar 0) (tCons (tC (.int 6)) (tNil)))) (tC (.int 30))) (tOp (rPlus K) (tOp (rMinus) (tVar 5) (tVar 6)) (tC (.int 1))))) (gName 7)) (tSeq (tIfS (tAnd (tTest (tOp (rSame K) (tOp (rRest) (tVar 2) (tC (.int 3))) (tC (.int 1)))) (tTest (tOp (rSame K) (tOp (rRest) (tOp (rFloor) (tVar 2) (tC (.int 18))) (tC (.int 2))) (tC (.int 0))))) (tAsg (tC (.int 0)) (gName 7)) (tNext)) (tSeq (tAsg (tFun (sp_Ltext K) [] (fun _ => E) (tCons (tVar 0) (tCons (tC (.int 8)) (tCons (tVar 5) (tNil))))) (gName 8)) (tSeq (tIfS (tTest (tOp (rSame K) (tOp (rRest) (tVar 2) (tC (.int 48))) (tC (.int 1)))) (tSeq (tPar3 1 6 7 (tCons (tSl (rSlL K) (tVar 1) (tNoPart) (tPart (tC (.int 1)))) (tCons (tC (.int 0)) (tCons (tC (.int 0)) (tNil))))) (tAsg (tSl (rSlL K) (tOp (rTimes) (tFun (sp_Ltext K) [] (fun _ => E) (tCons (tVar 0) (tCons (tC (.int 8)) (tCons (tC (.int 35)) (tNil))))) (tC (.int 2))) (tNoPart) (tPart (tOp (rPlus K) (tC (.int 66)) (tOp (rRest) (tOp (rFloor) (tVar 2) (tC (.int 48))) (tC (.int 5)))))) (gName 8))) (tNext)) (tSeq (tAsg (tNew (He.ga K "Foreteller") (sp_Foreteller_init K) [] (fun _ => E) (tCons (tCB (rListOf K) (tCons (tVar 1) (tNil))) (tNil))) (gName 9)) (tSeq (tAsg (tDNewN) (gName 10)) (tSeq (tAsg (tOp (rTimes) (tLst (tCons (tOp (rLsh) (tC (.int 1)) (tC (.int 40))) (tNil))) (tCB (rLength K) (tCons (tVar 1) (tNil)))) (gName 11)) (tSeq (tAsg (tLst (tCons (tSl (rSlL K) (tVar 8) (tNoPart) (tPart (tVar 6))) (tCons (tSl (rSlL K) (tVar 8) (tPart (tVar 6)) (tPart (tVar 7))) (tCons (tSl (rSlL K) (tVar 8) (tPart (tVar 7)) (tNoPart)) (tNil))))) (gName 12)) (tSeq (tIfS (tTest (tOp (rSame K) (tOp (rRest) (tVar 2) (tC (.int 3))) (tC (.int 2)))) (tAsg (tOp (rPlus K) (tVar 12) (tOp (rTimes) (tLst (tCons (tLst (tNil)) (tNil))) (tC (.int 300)))) (gName 12)) (tNext)) (tSeq (tFor (iList K (tVar 12)) (gName 13) (tSeq (tAsg (tFun (sp_Lseen K) [] (fun _ => E) (tCons (tVar 9) (tCons (tVar 1) (tCons (tVar 10) (tCons (tVar 11) (tCons (tVar 13) (tNil))))))) (gName 11)) (tIfS (tTest (tOp (rIsNo) (tVar 11) (tC .non))) (tRet (tC (.bl false))) (tNext)))) (tRet (tAndV (tOp (rSame K) (tMth "node" (one (He.ga K "Foreteller") (sp_Foreteller_node K)) (fun _ => E) (tVar 9) (tNil)) (tC (.int 0))) (tOp (rSame K) (tMth "signs" (one (He.ga K "Foreteller") (sp_Foreteller_signs K)) (fun _ => E) (tVar 9) (tNil)) (tLst (tNil)))))))))))))))))))) = R3 at tail ⊢
  walk_at "go"
  refine ⟨sc, cs, rfl, hs, fun l las ks H1 ok nl S L => ?_⟩
  have hs1 := S.seq hs
  walk_at "go"
  refine ⟨sc, cs, 6, rfl, rfl, hs1, ?_⟩
  walk_at "go"
  exact tail hs1 L ok q
  ) only [↓Bx.eq]
theorem law_here (H : Hp) (a : Addr) (ns : List Int) (hl : ns.length ≤ 63) (hS : SqL K H a (ns.map V.int)) : sp_law K [.ref a] H (fun v _ => v = .bl true) fun _ _ _ => False :=
  ⟨.ref a, rfl, a, ns, rfl, hS, hl, fun _ => rfl⟩
end
end Fo
namespace Fo
open PySem PySem.Spec PyProof.Rows L2
section
variable {P : Program} {w : World} {K : PySem.W.Frag} {mg : Str → Option Value} {base h : Heap}
theorem cb_is_whole (KX : K.In h) (G : h.Ns mainGlobals mg) (c : SaysX fa fn xf K) : Cb false P w K mg base 1 (He.fAd K ("is_whole", none)) ["thing"] [] (sp_is_whole K) := by
  refine Bx.out ?_
  simp (disch := with_unfolding_all
  exact (
  cb_of (T := t_is_whole K) (c.def_ 0 rfl) sc_is_whole (fun vs H Q E h => by
    obtain ⟨_, rfl, _⟩ := h
    rfl) (fun _ _ _ _ _ _ us hl => match us, hl with | [_], _ => rfl)
   (fun cdv A outer s H E hr => by
    have nd := sc_is_whole.nd
    have ho := out_def (cxD_takes (n := false) (P := P) (w := w) (K := K) (mg := mg) (base := base) (N := N_is_whole) (qual := "is_whole") (st := s_is_whole) (f := He.fAd K ("is_whole", none)) (cdv := cdv) (A := A) (outer := outer) (s := s) (H := H) (E := E))
    have tk := cxD_takes (n := false) (P := P) (w := w) (K := K) (mg := mg) (base := base) (N := N_is_whole) (qual := "is_whole") (st := s_is_whole) (f := He.fAd K ("is_whole", none)) (cdv := cdv) (A := A) (outer := outer) (s := s) (H := H) (E := E)
    have pz := cxD_passes (n := false) (P := P) (w := w) (K := K) (mg := mg) (base := base) (N := N_is_whole) (qual := "is_whole") (st := s_is_whole) (f := He.fAd K ("is_whole", none)) (cdv := cdv) (A := A) (outer := outer) (s := s) (H := H) (E := E)
    exact pss_one (ps_ret (pe_and (pe_callB c_isi (by rfl) (He.free_ok KX G (c.fact 21 rfl)) (by decide +kernel) (pa_cons (pv 0) (pa_cons (pe_gty (He.free_ok KX G (c.fact 22 rfl)) (by decide +kernel)) (pa_nil)))) (pe_one (pe_not (pe_callB c_isi (by rfl) (He.free_ok KX G (c.fact 21 rfl)) (by decide +kernel) (pa_cons (pv 0) (pa_cons (pe_gty (He.free_ok KX G (c.fact 23 rfl)) (by decide +kernel)) (pa_nil)))))))))
   (fun vs H Q E h => by
    obtain ⟨_, rfl, h⟩ := h
    haveI : SaysC K := ⟨c⟩
    exact pure_is_whole K h))
  ) only [↓Bx.eq]
theorem cb_Even_init (KX : K.In h) (G : h.Ns mainGlobals mg) (c : SaysX fa fn xf K) : Cb false P w K mg base 1 (He.fAd K ("Even", some "__init__")) ["self"] [] (sp_Even_init K) := by
  refine Bx.out ?_
  simp (disch := with_unfolding_all
  exact (
  cb_of (T := t_Even_init K) (c.def_ 6 rfl) sc_Even_init (fun vs H Q E h => by
    obtain ⟨_, rfl, _⟩ := h
    rfl) (fun _ _ _ _ _ _ us hl => match us, hl with | [_], _ => rfl)
   (fun cdv A outer s H E hr => by
    have nd := sc_Even_init.nd
    have ho := out_def (cxD_takes (n := false) (P := P) (w := w) (K := K) (mg := mg) (base := base) (N := N_Even_init) (qual := "Even.__init__") (st := s_Even_init) (f := He.fAd K ("Even", some "__init__")) (cdv := cdv) (A := A) (outer := outer) (s := s) (H := H) (E := E))
    have tk := cxD_takes (n := false) (P := P) (w := w) (K := K) (mg := mg) (base := base) (N := N_Even_init) (qual := "Even.__init__") (st := s_Even_init) (f := He.fAd K ("Even", some "__init__")) (cdv := cdv) (A := A) (outer := outer) (s := s) (H := H) (E := E)
    have pz := cxD_passes (n := false) (P := P) (w := w) (K := K) (mg := mg) (base := base) (N := N_Even_init) (qual := "Even.__init__") (st := s_Even_init) (f := He.fAd K ("Even", some "__init__")) (cdv := cdv) (A := A) (outer := outer) (s := s) (H := H) (E := E)
    exact pss_cons (ps_fld (pv 0) (pe_int) rfl)
       (pss_one (ps_fld (pv 0) (pe_int) rfl)))
   (fun vs H Q E h => by
    obtain ⟨_, rfl, h⟩ := h
    haveI : SaysC K := ⟨c⟩
    exact pure_Even_init K h))
  ) only [↓Bx.eq]
theorem cb_Even_chance (KX : K.In h) (G : h.Ns mainGlobals mg) (c : SaysX fa fn xf K) : Cb false P w K mg base 1 (He.fAd K ("Even", some "chance")) ["self"] [] (sp_Even_chance K) := by
  refine Bx.out ?_
  simp (disch := with_unfolding_all
  exact (
  cb_of (T := t_Even_chance K) (c.def_ 7 rfl) sc_Even_chance (fun vs H Q E h => by
    obtain ⟨_, rfl, _⟩ := h
    rfl) (fun _ _ _ _ _ _ us hl => match us, hl with | [_], _ => rfl)
   (fun cdv A outer s H E hr => by
    have nd := sc_Even_chance.nd
    have ho := out_def (cxD_takes (n := false) (P := P) (w := w) (K := K) (mg := mg) (base := base) (N := N_Even_chance) (qual := "Even.chance") (st := s_Even_chance) (f := He.fAd K ("Even", some "chance")) (cdv := cdv) (A := A) (outer := outer) (s := s) (H := H) (E := E))
    have tk := cxD_takes (n := false) (P := P) (w := w) (K := K) (mg := mg) (base := base) (N := N_Even_chance) (qual := "Even.chance") (st := s_Even_chance) (f := He.fAd K ("Even", some "chance")) (cdv := cdv) (A := A) (outer := outer) (s := s) (H := H) (E := E)
    have pz := cxD_passes (n := false) (P := P) (w := w) (K := K) (mg := mg) (base := base) (N := N_Even_chance) (qual := "Even.chance") (st := s_Even_chance) (f := He.fAd K ("Even", some "chance")) (cdv := cdv) (A := A) (outer := outer) (s := s) (H := H) (E := E)
    exact pss_one (ps_ret (pe_op o_floor (pe_op o_times (pe_op o_plus (pe_op o_times (pe_int) (pe_fld (pv 0) rfl)) (pe_int)) (pe_gint (He.int_ok KX G (c.fact 24 rfl)))) (pe_op o_plus (pe_op o_times (pe_int) (pe_op o_plus (pe_fld (pv 0) rfl) (pe_fld (pv 0) rfl))) (pe_int)))))
   (fun vs H Q E h => by
    obtain ⟨_, rfl, h⟩ := h
    haveI : SaysC K := ⟨c⟩
    exact pure_Even_chance K h))
  ) only [↓Bx.eq]
theorem cb_Quick_init (KX : K.In h) (G : h.Ns mainGlobals mg) (c : SaysX fa fn xf K) : Cb false P w K mg base 1 (He.fAd K ("Quick", some "__init__")) ["self"] [] (sp_Quick_init K) := by
  refine Bx.out ?_
  simp (disch := with_unfolding_all
  exact (
  cb_of (T := t_Quick_init K) (c.def_ 9 rfl) sc_Quick_init (fun vs H Q E h => by
    obtain ⟨_, rfl, _⟩ := h
    rfl) (fun _ _ _ _ _ _ us hl => match us, hl with | [_], _ => rfl)
   (fun cdv A outer s H E hr => by
    have nd := sc_Quick_init.nd
    have ho := out_def (cxD_takes (n := false) (P := P) (w := w) (K := K) (mg := mg) (base := base) (N := N_Quick_init) (qual := "Quick.__init__") (st := s_Quick_init) (f := He.fAd K ("Quick", some "__init__")) (cdv := cdv) (A := A) (outer := outer) (s := s) (H := H) (E := E))
    have tk := cxD_takes (n := false) (P := P) (w := w) (K := K) (mg := mg) (base := base) (N := N_Quick_init) (qual := "Quick.__init__") (st := s_Quick_init) (f := He.fAd K ("Quick", some "__init__")) (cdv := cdv) (A := A) (outer := outer) (s := s) (H := H) (E := E)
    have pz := cxD_passes (n := false) (P := P) (w := w) (K := K) (mg := mg) (base := base) (N := N_Quick_init) (qual := "Quick.__init__") (st := s_Quick_init) (f := He.fAd K ("Quick", some "__init__")) (cdv := cdv) (A := A) (outer := outer) (s := s) (H := H) (E := E)
    exact pss_one (ps_fld (pv 0) (pe_op o_floor (pe_gint (He.int_ok KX G (c.fact 24 rfl))) (pe_int)) rfl))
   (fun vs H Q E h => by
    obtain ⟨_, rfl, h⟩ := h
    haveI : SaysC K := ⟨c⟩
    exact pure_Quick_init K h))
  ) only [↓Bx.eq]
theorem cb_Quick_chance (KX : K.In h) (G : h.Ns mainGlobals mg) (c : SaysX fa fn xf K) : Cb false P w K mg base 1 (He.fAd K ("Quick", some "chance")) ["self"] [] (sp_Quick_chance K) := by
  refine Bx.out ?_
  simp (disch := with_unfolding_all
  exact (
  cb_of (T := t_Quick_chance K) (c.def_ 10 rfl) sc_Quick_chance (fun vs H Q E h => by
    obtain ⟨_, rfl, _⟩ := h
    rfl) (fun _ _ _ _ _ _ us hl => match us, hl with | [_], _ => rfl)
   (fun cdv A outer s H E hr => by
    have nd := sc_Quick_chance.nd
    have ho := out_def (cxD_takes (n := false) (P := P) (w := w) (K := K) (mg := mg) (base := base) (N := N_Quick_chance) (qual := "Quick.chance") (st := s_Quick_chance) (f := He.fAd K ("Quick", some "chance")) (cdv := cdv) (A := A) (outer := outer) (s := s) (H := H) (E := E))
    have tk := cxD_takes (n := false) (P := P) (w := w) (K := K) (mg := mg) (base := base) (N := N_Quick_chance) (qual := "Quick.chance") (st := s_Quick_chance) (f := He.fAd K ("Quick", some "chance")) (cdv := cdv) (A := A) (outer := outer) (s := s) (H := H) (E := E)
    have pz := cxD_passes (n := false) (P := P) (w := w) (K := K) (mg := mg) (base := base) (N := N_Quick_chance) (qual := "Quick.chance") (st := s_Quick_chance) (f := He.fAd K ("Quick", some "chance")) (cdv := cdv) (A := A) (outer := outer) (s := s) (H := H) (E := E)
    exact pss_one (ps_ret (pe_fld (pv 0) rfl)))
   (fun vs H Q E h => by
    obtain ⟨_, rfl, h⟩ := h
    haveI : SaysC K := ⟨c⟩
    exact pure_Quick_chance K h))
  ) only [↓Bx.eq]
theorem cb_Run_init (KX : K.In h) (G : h.Ns mainGlobals mg) (c : SaysX fa fn xf K) : Cb false P w K mg base 1 (He.fAd K ("Run", some "__init__")) ["self"] [] (sp_Run_init K) := by
  refine Bx.out ?_
  simp (disch := with_unfolding_all
  exact (
  cb_of (T := t_Run_init K) (c.def_ 12 rfl) sc_Run_init (fun vs H Q E h => by
    obtain ⟨_, rfl, _⟩ := h
    rfl) (fun _ _ _ _ _ _ us hl => match us, hl with | [_], _ => rfl)
   (fun cdv A outer s H E hr => by
    have nd := sc_Run_init.nd
    have ho := out_def (cxD_takes (n := false) (P := P) (w := w) (K := K) (mg := mg) (base := base) (N := N_Run_init) (qual := "Run.__init__") (st := s_Run_init) (f := He.fAd K ("Run", some "__init__")) (cdv := cdv) (A := A) (outer := outer) (s := s) (H := H) (E := E))
    have tk := cxD_takes (n := false) (P := P) (w := w) (K := K) (mg := mg) (base := base) (N := N_Run_init) (qual := "Run.__init__") (st := s_Run_init) (f := He.fAd K ("Run", some "__init__")) (cdv := cdv) (A := A) (outer := outer) (s := s) (H := H) (E := E)
    have pz := cxD_passes (n := false) (P := P) (w := w) (K := K) (mg := mg) (base := base) (N := N_Run_init) (qual := "Run.__init__") (st := s_Run_init) (f := He.fAd K ("Run", some "__init__")) (cdv := cdv) (A := A) (outer := outer) (s := s) (H := H) (E := E)
    exact pss_cons (ps_fld (pv 0) (pe_int) rfl)
       (pss_one (ps_fld (pv 0) (pe_int) rfl)))
   (fun vs H Q E h => by
    obtain ⟨_, rfl, h⟩ := h
    haveI : SaysC K := ⟨c⟩
    exact pure_Run_init K h))
  ) only [↓Bx.eq]
theorem cb_Run_chance (KX : K.In h) (G : h.Ns mainGlobals mg) (c : SaysX fa fn xf K) : Cb false P w K mg base 1 (He.fAd K ("Run", some "chance")) ["self"] [] (sp_Run_chance K) := by
  refine Bx.out ?_
  simp (disch := with_unfolding_all
  exact (
  cb_of (T := t_Run_chance K) (c.def_ 13 rfl) sc_Run_chance (fun vs H Q E h => by
    obtain ⟨_, rfl, _⟩ := h
    rfl) (fun _ _ _ _ _ _ us hl => match us, hl with | [_], _ => rfl)
   (fun cdv A outer s H E hr => by
    have nd := sc_Run_chance.nd
    have ho := out_def (cxD_takes (n := false) (P := P) (w := w) (K := K) (mg := mg) (base := base) (N := N_Run_chance) (qual := "Run.chance") (st := s_Run_chance) (f := He.fAd K ("Run", some "chance")) (cdv := cdv) (A := A) (outer := outer) (s := s) (H := H) (E := E))
    have tk := cxD_takes (n := false) (P := P) (w := w) (K := K) (mg := mg) (base := base) (N := N_Run_chance) (qual := "Run.chance") (st := s_Run_chance) (f := He.fAd K ("Run", some "chance")) (cdv := cdv) (A := A) (outer := outer) (s := s) (H := H) (E := E)
    have pz := cxD_passes (n := false) (P := P) (w := w) (K := K) (mg := mg) (base := base) (N := N_Run_chance) (qual := "Run.chance") (st := s_Run_chance) (f := He.fAd K ("Run", some "chance")) (cdv := cdv) (A := A) (outer := outer) (s := s) (H := H) (E := E)
    exact pss_cons (ps_set (i := 1) nd rfl (by first | exact Or.inl rfl | exact Or.inr rfl) (pe_op o_floor (pe_op o_times (pe_op o_plus (pe_op o_times (pe_int) (pe_fld (pv 0) rfl)) (pe_int)) (pe_gint (He.int_ok KX G (c.fact 24 rfl)))) (pe_op o_plus (pe_op o_times (pe_int) (pe_fld (pv 0) rfl)) (pe_int))))
       (pss_cons (ps_if (pt_cmpR (o_same hr.units) (pe_fld (pv 0) rfl) (pe_int) (nomark _)) (pss_one (ps_ret (pv 1))) (pss_nil))
       (pss_one (ps_ret (pe_op o_minus (pe_gint (He.int_ok KX G (c.fact 24 rfl))) (pv 1))))))
   (fun vs H Q E h => by
    obtain ⟨_, rfl, h⟩ := h
    haveI : SaysC K := ⟨c⟩
    exact pure_Run_chance K h))
  ) only [↓Bx.eq]
theorem cb_context_of (KX : K.In h) (G : h.Ns mainGlobals mg) (c : SaysX fa fn xf K) : Cb false P w K mg base 1 (He.fAd K ("context_of", none)) ["look", "signs", "node"] [] (sp_context_of K) := by
  refine Bx.out ?_
  simp (disch := with_unfolding_all
  exact (
  cb_of (T := t_context_of K) (c.def_ 19 rfl) sc_context_of (fun vs H Q E h => by
    obtain ⟨_, _, _, rfl, _⟩ := h
    rfl) (fun _ _ _ _ _ _ us hl => match us, hl with | [_, _, _], _ => rfl)
   (fun cdv A outer s H E hr => by
    have nd := sc_context_of.nd
    have ho := out_def (cxD_takes (n := false) (P := P) (w := w) (K := K) (mg := mg) (base := base) (N := N_context_of) (qual := "context_of") (st := s_context_of) (f := He.fAd K ("context_of", none)) (cdv := cdv) (A := A) (outer := outer) (s := s) (H := H) (E := E))
    have tk := cxD_takes (n := false) (P := P) (w := w) (K := K) (mg := mg) (base := base) (N := N_context_of) (qual := "context_of") (st := s_context_of) (f := He.fAd K ("context_of", none)) (cdv := cdv) (A := A) (outer := outer) (s := s) (H := H) (E := E)
    have pz := cxD_passes (n := false) (P := P) (w := w) (K := K) (mg := mg) (base := base) (N := N_context_of) (qual := "context_of") (st := s_context_of) (f := He.fAd K ("context_of", none)) (cdv := cdv) (A := A) (outer := outer) (s := s) (H := H) (E := E)
    exact pss_cons (ps_set (i := 3) nd rfl (by first | exact Or.inl rfl | exact Or.inr rfl) (pe_lst (pa_nil)))
       (pss_cons (ps_for pz rfl (pi_tup (pe_ix ix_seq (pv 0) (pe_int) (fun _ _ => rfl))) (pg_name (i := 4) nd rfl (by first | exact Or.inl rfl | exact Or.inr rfl)) (pss_one (ps_if (pt_cmpR o_le (pv 4) (pe_callB c_len (by rfl) (He.free_ok KX G (c.fact 25 rfl)) (by decide +kernel) (pa_cons (pv 1) (pa_nil))) (nomark _)) (pss_one (ps_expr (pe_bm PySem.F.plainAttrs_list PySem.F.slot_list_append PySem.F.type_list_append mt_append (pv 3) (pa_cons (pe_ix ix_seq (pv 1) (pe_op o_minus (pe_callB c_len (by rfl) (He.free_ok KX G (c.fact 25 rfl)) (by decide +kernel) (pa_cons (pv 1) (pa_nil))) (pv 4)) (fun _ _ => rfl)) (pa_nil))))) (pss_one (ps_expr (pe_bm PySem.F.plainAttrs_list PySem.F.slot_list_append PySem.F.type_list_append mt_append (pv 3) (pa_cons (pe_gint (He.int_ok KX G (c.fact 27 rfl))) (pa_nil))))))))
       (pss_one (ps_ret (pe_callTy c_tuple (by rfl) (He.free_ok KX G (c.fact 26 rfl)) (by decide +kernel) (pa_cons (pe_op o_plus (pv 3) (pe_lst (pa_cons (pv 2) (pa_nil)))) (pa_nil)))))))
   (fun vs H Q E h => by
    obtain ⟨_, _, _, rfl, h⟩ := h
    haveI : SaysC K := ⟨c⟩
    exact pure_context_of K h))
  ) only [↓Bx.eq]
theorem cb_Book_init (KX : K.In h) (G : h.Ns mainGlobals mg) (c : SaysX fa fn xf K) : Cb false P w K mg base 1 (He.fAd K ("Book", some "__init__")) ["self", "look"] [] (sp_Book_init K) := by
  refine Bx.out ?_
  simp (disch := with_unfolding_all
  exact (
  cb_of (T := t_Book_init K) (c.def_ 20 rfl) sc_Book_init (fun vs H Q E h => by
    obtain ⟨_, _, rfl, _⟩ := h
    rfl) (fun _ _ _ _ _ _ us hl => match us, hl with | [_, _], _ => rfl)
   (fun cdv A outer s H E hr => by
    have nd := sc_Book_init.nd
    have ho := out_def (cxD_takes (n := false) (P := P) (w := w) (K := K) (mg := mg) (base := base) (N := N_Book_init) (qual := "Book.__init__") (st := s_Book_init) (f := He.fAd K ("Book", some "__init__")) (cdv := cdv) (A := A) (outer := outer) (s := s) (H := H) (E := E))
    have tk := cxD_takes (n := false) (P := P) (w := w) (K := K) (mg := mg) (base := base) (N := N_Book_init) (qual := "Book.__init__") (st := s_Book_init) (f := He.fAd K ("Book", some "__init__")) (cdv := cdv) (A := A) (outer := outer) (s := s) (H := H) (E := E)
    have pz := cxD_passes (n := false) (P := P) (w := w) (K := K) (mg := mg) (base := base) (N := N_Book_init) (qual := "Book.__init__") (st := s_Book_init) (f := He.fAd K ("Book", some "__init__")) (cdv := cdv) (A := A) (outer := outer) (s := s) (H := H) (E := E)
    exact pss_cons (ps_fld (pv 0) (pv 1) rfl)
       (pss_one (ps_fld (pv 0) (pe_dnewT) rfl)))
   (fun vs H Q E h => by
    obtain ⟨_, _, rfl, h⟩ := h
    haveI : SaysC K := ⟨c⟩
    exact pure_Book_init K h))
  ) only [↓Bx.eq]
theorem cb_Mixer_init (KX : K.In h) (G : h.Ns mainGlobals mg) (c : SaysX fa fn xf K) : Cb false P w K mg base 1 (He.fAd K ("Mixer", some "__init__")) ["self", "many"] [] (sp_Mixer_init K) := by
  refine Bx.out ?_
  simp (disch := with_unfolding_all
  exact (
  cb_of (T := t_Mixer_init K) (c.def_ 23 rfl) sc_Mixer_init (fun vs H Q E h => by
    obtain ⟨_, _, rfl, _⟩ := h
    rfl) (fun _ _ _ _ _ _ us hl => match us, hl with | [_, _], _ => rfl)
   (fun cdv A outer s H E hr => by
    have nd := sc_Mixer_init.nd
    have ho := out_def (cxD_takes (n := false) (P := P) (w := w) (K := K) (mg := mg) (base := base) (N := N_Mixer_init) (qual := "Mixer.__init__") (st := s_Mixer_init) (f := He.fAd K ("Mixer", some "__init__")) (cdv := cdv) (A := A) (outer := outer) (s := s) (H := H) (E := E))
    have tk := cxD_takes (n := false) (P := P) (w := w) (K := K) (mg := mg) (base := base) (N := N_Mixer_init) (qual := "Mixer.__init__") (st := s_Mixer_init) (f := He.fAd K ("Mixer", some "__init__")) (cdv := cdv) (A := A) (outer := outer) (s := s) (H := H) (E := E)
    have pz := cxD_passes (n := false) (P := P) (w := w) (K := K) (mg := mg) (base := base) (N := N_Mixer_init) (qual := "Mixer.__init__") (st := s_Mixer_init) (f := He.fAd K ("Mixer", some "__init__")) (cdv := cdv) (A := A) (outer := outer) (s := s) (H := H) (E := E)
    exact pss_one (ps_fld (pv 0) (pe_op o_times (pe_lst (pa_cons (pe_gint (He.int_ok KX G (c.fact 28 rfl))) (pa_nil))) (pv 1)) rfl))
   (fun vs H Q E h => by
    obtain ⟨_, _, rfl, h⟩ := h
    haveI : SaysC K := ⟨c⟩
    exact pure_Mixer_init K h))
  ) only [↓Bx.eq]
theorem cb_Mixer_weights (KX : K.In h) (G : h.Ns mainGlobals mg) (c : SaysX fa fn xf K) : Cb false P w K mg base 1 (He.fAd K ("Mixer", some "weights")) ["self"] [] (sp_Mixer_weights K) := by
  refine Bx.out ?_
  simp (disch := with_unfolding_all
  exact (
  cb_of (T := t_Mixer_weights K) (c.def_ 24 rfl) sc_Mixer_weights (fun vs H Q E h => by
    obtain ⟨_, rfl, _⟩ := h
    rfl) (fun _ _ _ _ _ _ us hl => match us, hl with | [_], _ => rfl)
   (fun cdv A outer s H E hr => by
    have nd := sc_Mixer_weights.nd
    have ho := out_def (cxD_takes (n := false) (P := P) (w := w) (K := K) (mg := mg) (base := base) (N := N_Mixer_weights) (qual := "Mixer.weights") (st := s_Mixer_weights) (f := He.fAd K ("Mixer", some "weights")) (cdv := cdv) (A := A) (outer := outer) (s := s) (H := H) (E := E))
    have tk := cxD_takes (n := false) (P := P) (w := w) (K := K) (mg := mg) (base := base) (N := N_Mixer_weights) (qual := "Mixer.weights") (st := s_Mixer_weights) (f := He.fAd K ("Mixer", some "weights")) (cdv := cdv) (A := A) (outer := outer) (s := s) (H := H) (E := E)
    have pz := cxD_passes (n := false) (P := P) (w := w) (K := K) (mg := mg) (base := base) (N := N_Mixer_weights) (qual := "Mixer.weights") (st := s_Mixer_weights) (f := He.fAd K ("Mixer", some "weights")) (cdv := cdv) (A := A) (outer := outer) (s := s) (H := H) (E := E)
    exact pss_one (ps_ret (pe_callTy c_list (by rfl) (He.free_ok KX G (c.fact 29 rfl)) (by decide +kernel) (pa_cons (pe_fld (pv 0) rfl) (pa_nil)))))
   (fun vs H Q E h => by
    obtain ⟨_, rfl, h⟩ := h
    haveI : SaysC K := ⟨c⟩
    exact pure_Mixer_weights K h))
  ) only [↓Bx.eq]
theorem cb_Mixer_mixed (KX : K.In h) (G : h.Ns mainGlobals mg) (c : SaysX fa fn xf K) : Cb false P w K mg base 1 (He.fAd K ("Mixer", some "mixed")) ["self", "chances"] [] (sp_Mixer_mixed K) := by
  refine Bx.out ?_
  simp (disch := with_unfolding_all
  exact (
  cb_of (T := t_Mixer_mixed K) (c.def_ 25 rfl) sc_Mixer_mixed (fun vs H Q E h => by
    obtain ⟨_, _, rfl, _⟩ := h
    rfl) (fun _ _ _ _ _ _ us hl => match us, hl with | [_, _], _ => rfl)
   (fun cdv A outer s H E hr => by
    have nd := sc_Mixer_mixed.nd
    have ho := out_def (cxD_takes (n := false) (P := P) (w := w) (K := K) (mg := mg) (base := base) (N := N_Mixer_mixed) (qual := "Mixer.mixed") (st := s_Mixer_mixed) (f := He.fAd K ("Mixer", some "mixed")) (cdv := cdv) (A := A) (outer := outer) (s := s) (H := H) (E := E))
    have tk := cxD_takes (n := false) (P := P) (w := w) (K := K) (mg := mg) (base := base) (N := N_Mixer_mixed) (qual := "Mixer.mixed") (st := s_Mixer_mixed) (f := He.fAd K ("Mixer", some "mixed")) (cdv := cdv) (A := A) (outer := outer) (s := s) (H := H) (E := E)
    have pz := cxD_passes (n := false) (P := P) (w := w) (K := K) (mg := mg) (base := base) (N := N_Mixer_mixed) (qual := "Mixer.mixed") (st := s_Mixer_mixed) (f := He.fAd K ("Mixer", some "mixed")) (cdv := cdv) (A := A) (outer := outer) (s := s) (H := H) (E := E)
    exact pss_cons (ps_set (i := 2) nd rfl (by first | exact Or.inl rfl | exact Or.inr rfl) (pe_int))
       (pss_cons (ps_for pz rfl (pi_zip (by rfl) (He.free_ok KX G (c.fact 30 rfl)) (pa_cons (pe_fld (pv 0) rfl) (pa_cons (pv 1) (pa_nil)))) (pg_tup rfl (pgs_cons (pg_name (i := 3) nd rfl (by first | exact Or.inl rfl | exact Or.inr rfl)) (pgs_cons (pg_name (i := 4) nd rfl (by first | exact Or.inl rfl | exact Or.inr rfl)) (pgs_nil)))) (pss_one (ps_aug (i := 2) nd rfl (by first | exact Or.inl rfl | exact Or.inr rfl) (pe_op o_times (pv 3) (pv 4)) ip_add)))
       (pss_one (ps_ret (pe_op o_floor (pv 2) (pe_callB (c_sum rfl) (by rfl) (He.free_ok KX G (c.fact 31 rfl)) (by decide +kernel) (pa_cons (pe_fld (pv 0) rfl) (pa_nil))))))))
   (fun vs H Q E h => by
    obtain ⟨_, _, rfl, h⟩ := h
    haveI : SaysC K := ⟨c⟩
    exact pure_Mixer_mixed K h))
  ) only [↓Bx.eq]
theorem cb_Foreteller_node (KX : K.In h) (G : h.Ns mainGlobals mg) (c : SaysX fa fn xf K) : Cb false P w K mg base 1 (He.fAd K ("Foreteller", some "node")) ["self"] [] (sp_Foreteller_node K) := by
  refine Bx.out ?_
  simp (disch := with_unfolding_all
  exact (
  cb_of (T := t_Foreteller_node K) (c.def_ 31 rfl) sc_Foreteller_node (fun vs H Q E h => by
    obtain ⟨_, rfl, _⟩ := h
    rfl) (fun _ _ _ _ _ _ us hl => match us, hl with | [_], _ => rfl)
   (fun cdv A outer s H E hr => by
    have nd := sc_Foreteller_node.nd
    have ho := out_def (cxD_takes (n := false) (P := P) (w := w) (K := K) (mg := mg) (base := base) (N := N_Foreteller_node) (qual := "Foreteller.node") (st := s_Foreteller_node) (f := He.fAd K ("Foreteller", some "node")) (cdv := cdv) (A := A) (outer := outer) (s := s) (H := H) (E := E))
    have tk := cxD_takes (n := false) (P := P) (w := w) (K := K) (mg := mg) (base := base) (N := N_Foreteller_node) (qual := "Foreteller.node") (st := s_Foreteller_node) (f := He.fAd K ("Foreteller", some "node")) (cdv := cdv) (A := A) (outer := outer) (s := s) (H := H) (E := E)
    have pz := cxD_passes (n := false) (P := P) (w := w) (K := K) (mg := mg) (base := base) (N := N_Foreteller_node) (qual := "Foreteller.node") (st := s_Foreteller_node) (f := He.fAd K ("Foreteller", some "node")) (cdv := cdv) (A := A) (outer := outer) (s := s) (H := H) (E := E)
    exact pss_one (ps_ret (pe_fld (pv 0) rfl)))
   (fun vs H Q E h => by
    obtain ⟨_, rfl, h⟩ := h
    haveI : SaysC K := ⟨c⟩
    exact pure_Foreteller_node K h))
  ) only [↓Bx.eq]
theorem cb_Foreteller_signs (KX : K.In h) (G : h.Ns mainGlobals mg) (c : SaysX fa fn xf K) : Cb false P w K mg base 1 (He.fAd K ("Foreteller", some "signs")) ["self"] [] (sp_Foreteller_signs K) := by
  refine Bx.out ?_
  simp (disch := with_unfolding_all
  exact (
  cb_of (T := t_Foreteller_signs K) (c.def_ 32 rfl) sc_Foreteller_signs (fun vs H Q E h => by
    obtain ⟨_, rfl, _⟩ := h
    rfl) (fun _ _ _ _ _ _ us hl => match us, hl with | [_], _ => rfl)
   (fun cdv A outer s H E hr => by
    have nd := sc_Foreteller_signs.nd
    have ho := out_def (cxD_takes (n := false) (P := P) (w := w) (K := K) (mg := mg) (base := base) (N := N_Foreteller_signs) (qual := "Foreteller.signs") (st := s_Foreteller_signs) (f := He.fAd K ("Foreteller", some "signs")) (cdv := cdv) (A := A) (outer := outer) (s := s) (H := H) (E := E))
    have tk := cxD_takes (n := false) (P := P) (w := w) (K := K) (mg := mg) (base := base) (N := N_Foreteller_signs) (qual := "Foreteller.signs") (st := s_Foreteller_signs) (f := He.fAd K ("Foreteller", some "signs")) (cdv := cdv) (A := A) (outer := outer) (s := s) (H := H) (E := E)
    have pz := cxD_passes (n := false) (P := P) (w := w) (K := K) (mg := mg) (base := base) (N := N_Foreteller_signs) (qual := "Foreteller.signs") (st := s_Foreteller_signs) (f := He.fAd K ("Foreteller", some "signs")) (cdv := cdv) (A := A) (outer := outer) (s := s) (H := H) (E := E)
    exact pss_one (ps_ret (pe_callTy c_list (by rfl) (He.free_ok KX G (c.fact 29 rfl)) (by decide +kernel) (pa_cons (pe_fld (pv 0) rfl) (pa_nil)))))
   (fun vs H Q E h => by
    obtain ⟨_, rfl, h⟩ := h
    haveI : SaysC K := ⟨c⟩
    exact pure_Foreteller_signs K h))
  ) only [↓Bx.eq]
theorem cb_Foreteller_go (KX : K.In h) (G : h.Ns mainGlobals mg) (c : SaysX fa fn xf K) : Cb false P w K mg base 1 (He.fAd K ("Foreteller", some "go")) ["self", "bit"] [] (sp_Foreteller_go K) := by
  refine Bx.out ?_
  simp (disch := with_unfolding_all
  exact (
  cb_of (T := t_Foreteller_go K) (c.def_ 34 rfl) sc_Foreteller_go (fun vs H Q E h => by
    obtain ⟨_, _, rfl, _⟩ := h
    rfl) (fun _ _ _ _ _ _ us hl => match us, hl with | [_, _], _ => rfl)
   (fun cdv A outer s H E hr => by
    have nd := sc_Foreteller_go.nd
    have ho := out_def (cxD_takes (n := false) (P := P) (w := w) (K := K) (mg := mg) (base := base) (N := N_Foreteller_go) (qual := "Foreteller.go") (st := s_Foreteller_go) (f := He.fAd K ("Foreteller", some "go")) (cdv := cdv) (A := A) (outer := outer) (s := s) (H := H) (E := E))
    have tk := cxD_takes (n := false) (P := P) (w := w) (K := K) (mg := mg) (base := base) (N := N_Foreteller_go) (qual := "Foreteller.go") (st := s_Foreteller_go) (f := He.fAd K ("Foreteller", some "go")) (cdv := cdv) (A := A) (outer := outer) (s := s) (H := H) (E := E)
    have pz := cxD_passes (n := false) (P := P) (w := w) (K := K) (mg := mg) (base := base) (N := N_Foreteller_go) (qual := "Foreteller.go") (st := s_Foreteller_go) (f := He.fAd K ("Foreteller", some "go")) (cdv := cdv) (A := A) (outer := outer) (s := s) (H := H) (E := E)
    exact pss_one (ps_if (pt_cmpR o_gt (pe_fld (pv 0) rfl) (pe_int) (nomark _)) (pss_cons (ps_fld (pv 0) (pe_op o_plus (pe_op o_times (pe_int) (pe_fld (pv 0) rfl)) (pv 1)) rfl)
       (pss_one (ps_if (pt_cmpR o_gt (pe_fld (pv 0) rfl) (pe_int) (nomark _)) (pss_cons (ps_expr (pe_bm PySem.F.plainAttrs_list PySem.F.slot_list_append PySem.F.type_list_append mt_append (pe_fld (pv 0) rfl) (pa_cons (pe_op o_minus (pe_fld (pv 0) rfl) (pe_int)) (pa_nil))))
       (pss_one (ps_fld (pv 0) (pe_int) rfl))) (pss_nil)))) (pss_one (ps_if (pt_cmpR (o_same hr.units) (pv 1) (pe_int) (nomark _)) (pss_one (ps_fld (pv 0) (pe_int) rfl)) (pss_one (ps_fld (pv 0) (pe_lst (pa_nil)) rfl))))))
   (fun vs H Q E h => by
    obtain ⟨_, _, rfl, h⟩ := h
    haveI : SaysC K := ⟨c⟩
    exact pure_Foreteller_go K h))
  ) only [↓Bx.eq]
theorem cb_Lcell_at (KX : K.In h) (G : h.Ns mainGlobals mg) (c : SaysX fa fn xf K) : Cb false P w K mg base 1 (He.fAd K ("_law_cell_at", none)) ["_law_script", "_law_k"] [] (sp_Lcell_at K) := by
  refine Bx.out ?_
  simp (disch := with_unfolding_all
  exact (
  cb_of (T := t_Lcell_at K) (c.def_ 35 rfl) sc_Lcell_at (fun vs H Q E h => by
    obtain ⟨_, _, rfl, _⟩ := h
    rfl) (fun _ _ _ _ _ _ us hl => match us, hl with | [_, _], _ => rfl)
   (fun cdv A outer s H E hr => by
    have nd := sc_Lcell_at.nd
    have ho := out_def (cxD_takes (n := false) (P := P) (w := w) (K := K) (mg := mg) (base := base) (N := N_Lcell_at) (qual := "_law_cell_at") (st := s_Lcell_at) (f := He.fAd K ("_law_cell_at", none)) (cdv := cdv) (A := A) (outer := outer) (s := s) (H := H) (E := E))
    have tk := cxD_takes (n := false) (P := P) (w := w) (K := K) (mg := mg) (base := base) (N := N_Lcell_at) (qual := "_law_cell_at") (st := s_Lcell_at) (f := He.fAd K ("_law_cell_at", none)) (cdv := cdv) (A := A) (outer := outer) (s := s) (H := H) (E := E)
    have pz := cxD_passes (n := false) (P := P) (w := w) (K := K) (mg := mg) (base := base) (N := N_Lcell_at) (qual := "_law_cell_at") (st := s_Lcell_at) (f := He.fAd K ("_law_cell_at", none)) (cdv := cdv) (A := A) (outer := outer) (s := s) (H := H) (E := E)
    exact pss_cons (ps_if (pt_cmpR o_lt (pv 1) (pe_callB c_len (by rfl) (He.free_ok KX G (c.fact 25 rfl)) (by decide +kernel) (pa_cons (pv 0) (pa_nil))) (nomark _)) (pss_one (ps_ret (pe_op o_rest (pe_ix ix_seq (pv 0) (pv 1) (fun _ _ => rfl)) (pe_op o_pow (pe_int) (pe_int))))) (pss_nil))
       (pss_one (ps_ret (pe_int))))
   (fun vs H Q E h => by
    obtain ⟨_, _, rfl, h⟩ := h
    haveI : SaysC K := ⟨c⟩
    exact pure_Lcell_at K h))
  ) only [↓Bx.eq]
theorem cb_Llook (KX : K.In h) (G : h.Ns mainGlobals mg) (c : SaysX fa fn xf K) : Cb false P w K mg base 1 (He.fAd K ("_law_look", none)) ["_law_cell"] [] (sp_Llook K) := by
  refine Bx.out ?_
  simp (disch := with_unfolding_all
  exact (
  cb_of (T := t_Llook K) (c.def_ 36 rfl) sc_Llook (fun vs H Q E h => by
    obtain ⟨_, rfl, _⟩ := h
    rfl) (fun _ _ _ _ _ _ us hl => match us, hl with | [_], _ => rfl)
   (fun cdv A outer s H E hr => by
    have nd := sc_Llook.nd
    have ho := out_def (cxD_takes (n := false) (P := P) (w := w) (K := K) (mg := mg) (base := base) (N := N_Llook) (qual := "_law_look") (st := s_Llook) (f := He.fAd K ("_law_look", none)) (cdv := cdv) (A := A) (outer := outer) (s := s) (H := H) (E := E))
    have tk := cxD_takes (n := false) (P := P) (w := w) (K := K) (mg := mg) (base := base) (N := N_Llook) (qual := "_law_look") (st := s_Llook) (f := He.fAd K ("_law_look", none)) (cdv := cdv) (A := A) (outer := outer) (s := s) (H := H) (E := E)
    have pz := cxD_passes (n := false) (P := P) (w := w) (K := K) (mg := mg) (base := base) (N := N_Llook) (qual := "_law_look") (st := s_Llook) (f := He.fAd K ("_law_look", none)) (cdv := cdv) (A := A) (outer := outer) (s := s) (H := H) (E := E)
    exact pss_cons (ps_set (i := 1) nd rfl (by first | exact Or.inl rfl | exact Or.inr rfl) (pe_op o_rest (pe_op o_floor (pv 0) (pe_int)) (pe_int)))
       (pss_cons (ps_setLc (i := 2) (own := [("_law_k", 3)]) (g := gName 3) (tt := tTest (tOp (rSame K) (tOp (rMask) (tOp (rRsh) (tVar 1) (tVar 3)) (tC (.int 1))) (tC (.int 1)))) rfl nd rfl rfl (sw_true rfl rfl rfl (by decide +kernel)) (pi_range1 (by rfl) (He.free_ok KX G (c.fact 32 rfl)) (pa_cons (pe_int) (pa_nil))) (blkOk_by (N := N_Llook) (sc := defScope s_Llook) (by decide +kernel)) (fun _ _ _ _ _ => pg_name (i := 3) nd rfl (by first | exact Or.inl rfl | exact Or.inr rfl)) (fun _ _ _ _ _ => pts_one (pt_cmpR (o_same hr.units) (pe_op o_mask (pe_op o_rsh (pv 1) (pv 3)) (pe_int)) (pe_int) (nomark _))) (fun _ _ _ _ _ => pe_op o_plus (pv 3) (pe_int)))
       (pss_cons (ps_if (pt_cmpR (o_same hr.units) (pe_op o_rest (pe_op o_floor (pv 0) (pe_int)) (pe_int)) (pe_int) (nomark _)) (pss_one (ps_set (i := 2) nd rfl (by first | exact Or.inl rfl | exact Or.inr rfl) (pe_slice sl_list (pv 2) (po_none) (po_some (pe_int))))) (pss_nil))
       (pss_one (ps_ret (pe_tup (pa_cons (pe_ix ix_seq (pe_lst (pa_cons (pe_str) (pa_cons (pe_str) (pa_cons (pe_str) (pa_nil))))) (pe_op o_rest (pv 0) (pe_int)) (fun _ _ => rfl)) (pa_cons (pe_callTy c_tuple (by rfl) (He.free_ok KX G (c.fact 26 rfl)) (by decide +kernel) (pa_cons (pe_slice sl_list (pv 2) (po_none) (po_some (pe_int))) (pa_nil))) (pa_nil)))))))))
   (fun vs H Q E h => by
    obtain ⟨_, rfl, h⟩ := h
    haveI : SaysC K := ⟨c⟩
    exact pure_Llook K h))
  ) only [↓Bx.eq]
theorem cb_Lsign (KX : K.In h) (G : h.Ns mainGlobals mg) (c : SaysX fa fn xf K) : Cb false P w K mg base 1 (He.fAd K ("_law_sign", none)) ["_law_cell", "_law_first"] [] (sp_Lsign K) := by
  refine Bx.out ?_
  simp (disch := with_unfolding_all
  exact (
  cb_of (T := t_Lsign K) (c.def_ 38 rfl) sc_Lsign (fun vs H Q E h => by
    obtain ⟨_, _, rfl, _⟩ := h
    rfl) (fun _ _ _ _ _ _ us hl => match us, hl with | [_, _], _ => rfl)
   (fun cdv A outer s H E hr => by
    have nd := sc_Lsign.nd
    have ho := out_def (cxD_takes (n := false) (P := P) (w := w) (K := K) (mg := mg) (base := base) (N := N_Lsign) (qual := "_law_sign") (st := s_Lsign) (f := He.fAd K ("_law_sign", none)) (cdv := cdv) (A := A) (outer := outer) (s := s) (H := H) (E := E))
    have tk := cxD_takes (n := false) (P := P) (w := w) (K := K) (mg := mg) (base := base) (N := N_Lsign) (qual := "_law_sign") (st := s_Lsign) (f := He.fAd K ("_law_sign", none)) (cdv := cdv) (A := A) (outer := outer) (s := s) (H := H) (E := E)
    have pz := cxD_passes (n := false) (P := P) (w := w) (K := K) (mg := mg) (base := base) (N := N_Lsign) (qual := "_law_sign") (st := s_Lsign) (f := He.fAd K ("_law_sign", none)) (cdv := cdv) (A := A) (outer := outer) (s := s) (H := H) (E := E)
    exact pss_cons (ps_set (i := 2) nd rfl (by first | exact Or.inl rfl | exact Or.inr rfl) (pe_op o_rest (pv 0) (pe_int)))
       (pss_cons (ps_if (pt_cmpR (o_same hr.units) (pv 2) (pe_int) (nomark _)) (pss_one (ps_ret (pe_op o_rest (pe_op o_floor (pv 0) (pe_int)) (pe_int)))) (pss_nil))
       (pss_cons (ps_if (pt_cmpR (o_same hr.units) (pv 2) (pe_int) (nomark _)) (pss_one (ps_ret (pv 1))) (pss_nil))
       (pss_cons (ps_if (pt_cmpR (o_same hr.units) (pv 2) (pe_int) (nomark _)) (pss_one (ps_ret (pe_ix ix_seq (pe_lst (pa_cons (pe_int) (pa_cons (pe_int) (pa_nil)))) (pe_op o_rest (pe_op o_floor (pv 0) (pe_int)) (pe_int)) (fun _ _ => rfl)))) (pss_nil))
       (pss_one (ps_ret (pe_op o_plus (pe_int) (pe_op o_rest (pe_op o_floor (pv 0) (pe_int)) (pe_int)))))))))
   (fun vs H Q E h => by
    obtain ⟨_, _, rfl, h⟩ := h
    haveI : SaysC K := ⟨c⟩
    exact pure_Lsign K h))
  ) only [↓Bx.eq]
theorem cb_Lbits (KX : K.In h) (G : h.Ns mainGlobals mg) (c : SaysX fa fn xf K) : Cb false P w K mg base 1 (He.fAd K ("_law_bits", none)) ["_law_text_here"] [] (sp_Lbits K) := by
  refine Bx.out ?_
  simp (disch := with_unfolding_all
  exact (
  cb_of (T := t_Lbits K) (c.def_ 40 rfl) sc_Lbits (fun vs H Q E h => by
    obtain ⟨_, rfl, _⟩ := h
    rfl) (fun _ _ _ _ _ _ us hl => match us, hl with | [_], _ => rfl)
   (fun cdv A outer s H E hr => by
    have nd := sc_Lbits.nd
    have ho := out_def (cxD_takes (n := false) (P := P) (w := w) (K := K) (mg := mg) (base := base) (N := N_Lbits) (qual := "_law_bits") (st := s_Lbits) (f := He.fAd K ("_law_bits", none)) (cdv := cdv) (A := A) (outer := outer) (s := s) (H := H) (E := E))
    have tk := cxD_takes (n := false) (P := P) (w := w) (K := K) (mg := mg) (base := base) (N := N_Lbits) (qual := "_law_bits") (st := s_Lbits) (f := He.fAd K ("_law_bits", none)) (cdv := cdv) (A := A) (outer := outer) (s := s) (H := H) (E := E)
    have pz := cxD_passes (n := false) (P := P) (w := w) (K := K) (mg := mg) (base := base) (N := N_Lbits) (qual := "_law_bits") (st := s_Lbits) (f := He.fAd K ("_law_bits", none)) (cdv := cdv) (A := A) (outer := outer) (s := s) (H := H) (E := E)
    exact pss_cons (ps_set (i := 1) nd rfl (by first | exact Or.inl rfl | exact Or.inr rfl) (pe_lst (pa_nil)))
       (pss_cons (ps_for pz rfl (pi_list (pv 0)) (pg_name (i := 2) nd rfl (by first | exact Or.inl rfl | exact Or.inr rfl)) (pss_cons (ps_expr (pe_bm PySem.F.plainAttrs_list PySem.F.slot_list_append PySem.F.type_list_append mt_append (pv 1) (pa_cons (pe_int) (pa_nil))))
       (pss_one (ps_expr (pe_bm PySem.F.plainAttrs_list PySem.F.slot_list_extend PySem.F.type_list_extend mt_extend (pv 1) (pa_cons (pe_lc (own := [("_law_k", 3)]) (g := gName 3) (tt := tYes) rfl nd (pi_range1 (by rfl) (He.free_ok KX G (c.fact 32 rfl)) (pa_cons (pe_int) (pa_nil))) (blkOk_by (N := N_Lbits) (sc := defScope s_Lbits) (by decide +kernel)) (fun _ _ _ _ _ => pg_name (i := 3) nd rfl (by first | exact Or.inl rfl | exact Or.inr rfl)) (fun _ _ _ _ _ => pts_nil) (fun _ _ _ _ _ => pe_op o_rest (pe_op o_floor (pv 2) (pe_op o_rsh (pe_int) (pv 3))) (pe_int))) (pa_nil)))))))
       (pss_one (ps_ret (pe_op o_plus (pv 1) (pe_lst (pa_cons (pe_int) (pa_nil))))))))
   (fun vs H Q E h => by
    obtain ⟨_, rfl, h⟩ := h
    haveI : SaysC K := ⟨c⟩
    exact pure_Lbits K h))
  ) only [↓Bx.eq]
theorem cb_Llearnt (KX : K.In h) (G : h.Ns mainGlobals mg) (c : SaysX fa fn xf K) : Cb false P w K mg base 1 (He.fAd K ("_law_learnt", none)) ["_law_weights", "_law_chances", "_law_bit"] [] (sp_Llearnt K) := by
  refine Bx.out ?_
  simp (disch := with_unfolding_all
  exact (
  cb_of (T := t_Llearnt K) (c.def_ 41 rfl) sc_Llearnt (fun vs H Q E h => by
    obtain ⟨_, _, _, rfl, _⟩ := h
    rfl) (fun _ _ _ _ _ _ us hl => match us, hl with | [_, _, _], _ => rfl)
   (fun cdv A outer s H E hr => by
    have nd := sc_Llearnt.nd
    have ho := out_def (cxD_takes (n := false) (P := P) (w := w) (K := K) (mg := mg) (base := base) (N := N_Llearnt) (qual := "_law_learnt") (st := s_Llearnt) (f := He.fAd K ("_law_learnt", none)) (cdv := cdv) (A := A) (outer := outer) (s := s) (H := H) (E := E))
    have tk := cxD_takes (n := false) (P := P) (w := w) (K := K) (mg := mg) (base := base) (N := N_Llearnt) (qual := "_law_learnt") (st := s_Llearnt) (f := He.fAd K ("_law_learnt", none)) (cdv := cdv) (A := A) (outer := outer) (s := s) (H := H) (E := E)
    have pz := cxD_passes (n := false) (P := P) (w := w) (K := K) (mg := mg) (base := base) (N := N_Llearnt) (qual := "_law_learnt") (st := s_Llearnt) (f := He.fAd K ("_law_learnt", none)) (cdv := cdv) (A := A) (outer := outer) (s := s) (H := H) (E := E)
    exact pss_cons (ps_set (i := 3) nd rfl (by first | exact Or.inl rfl | exact Or.inr rfl) (pe_callB c_len (by rfl) (He.free_ok KX G (c.fact 25 rfl)) (by decide +kernel) (pa_cons (pv 0) (pa_nil))))
       (pss_cons (ps_set (i := 4) nd rfl (by first | exact Or.inl rfl | exact Or.inr rfl) (pe_lst (pa_nil)))
       (pss_cons (ps_for pz rfl (pi_range1 (by rfl) (He.free_ok KX G (c.fact 32 rfl)) (pa_cons (pv 3) (pa_nil))) (pg_name (i := 5) nd rfl (by first | exact Or.inl rfl | exact Or.inr rfl)) (pss_cons (ps_set (i := 6) nd rfl (by first | exact Or.inl rfl | exact Or.inr rfl) (pe_ix ix_seq (pv 1) (pv 5) (fun _ _ => rfl)))
       (pss_cons (ps_if (pt_cmpR (o_same hr.units) (pv 2) (pe_int) (nomark _)) (pss_one (ps_set (i := 6) nd rfl (by first | exact Or.inl rfl | exact Or.inr rfl) (pe_op o_minus (pe_op o_lsh (pe_int) (pe_int)) (pe_ix ix_seq (pv 1) (pv 5) (fun _ _ => rfl))))) (pss_nil))
       (pss_one (ps_expr (pe_bm PySem.F.plainAttrs_list PySem.F.slot_list_append PySem.F.type_list_append mt_append (pv 4) (pa_cons (pe_op o_times (pe_ix ix_seq (pv 0) (pv 5) (fun _ _ => rfl)) (pv 6)) (pa_nil))))))))
       (pss_cons (ps_setLc (i := 7) (own := [("_law_share", 10)]) (g := gName 10) (tt := tYes) rfl nd rfl rfl (sw_true rfl rfl rfl (by decide +kernel)) (pi_list (pv 4)) (blkOk_by (N := N_Llearnt) (sc := defScope s_Llearnt) (by decide +kernel)) (fun _ _ _ _ _ => pg_name (i := 10) nd rfl (by first | exact Or.inl rfl | exact Or.inr rfl)) (fun _ _ _ _ _ => pts_nil) (fun _ _ _ _ _ => pe_op o_plus (pe_op o_times (pe_op o_times (pe_int) (pv 3)) (pv 10)) (pe_callB (c_sum rfl) (by rfl) (He.free_ok KX G (c.fact 31 rfl)) (by decide +kernel) (pa_cons (pv 4) (pa_nil)))))
       (pss_cons (ps_set (i := 8) nd rfl (by first | exact Or.inl rfl | exact Or.inr rfl) (pe_callB (c_sum rfl) (by rfl) (He.free_ok KX G (c.fact 31 rfl)) (by decide +kernel) (pa_cons (pv 7) (pa_nil))))
       (pss_cons (ps_set (i := 9) nd rfl (by first | exact Or.inl rfl | exact Or.inr rfl) (pe_int))
       (pss_cons (ps_while pz (pt_cmpR o_ge (pv 8) (pe_op o_lsh (pe_int) (pe_int)) (nomark _)) (pss_cons (ps_set (i := 8) nd rfl (by first | exact Or.inl rfl | exact Or.inr rfl) (pe_op o_floor (pv 8) (pe_int)))
       (pss_one (ps_set (i := 9) nd rfl (by first | exact Or.inl rfl | exact Or.inr rfl) (pe_op o_times (pe_int) (pv 9))))))
       (pss_one (ps_ret (pe_lc (own := [("_law_one", 11)]) (g := gName 11) (tt := tYes) rfl nd (pi_list (pv 7)) (blkOk_by (N := N_Llearnt) (sc := defScope s_Llearnt) (by decide +kernel)) (fun _ _ _ _ _ => pg_name (i := 11) nd rfl (by first | exact Or.inl rfl | exact Or.inr rfl)) (fun _ _ _ _ _ => pts_nil) (fun _ _ _ _ _ => pe_op o_floor (pv 11) (pv 9))))))))))))
   (fun vs H Q E h => by
    obtain ⟨_, _, _, rfl, h⟩ := h
    haveI : SaysC K := ⟨c⟩
    exact pure_Llearnt K h))
  ) only [↓Bx.eq]
theorem cb_Lcontext (KX : K.In h) (G : h.Ns mainGlobals mg) (c : SaysX fa fn xf K) : Cb false P w K mg base 1 (He.fAd K ("_law_context", none)) ["_law_places", "_law_signs", "_law_node"] [] (sp_Lcontext K) := by
  refine Bx.out ?_
  simp (disch := with_unfolding_all
  exact (
  cb_of (T := t_Lcontext K) (c.def_ 42 rfl) sc_Lcontext (fun vs H Q E h => by
    obtain ⟨_, _, _, rfl, _⟩ := h
    rfl) (fun _ _ _ _ _ _ us hl => match us, hl with | [_, _, _], _ => rfl)
   (fun cdv A outer s H E hr => by
    have nd := sc_Lcontext.nd
    have ho := out_def (cxD_takes (n := false) (P := P) (w := w) (K := K) (mg := mg) (base := base) (N := N_Lcontext) (qual := "_law_context") (st := s_Lcontext) (f := He.fAd K ("_law_context", none)) (cdv := cdv) (A := A) (outer := outer) (s := s) (H := H) (E := E))
    have tk := cxD_takes (n := false) (P := P) (w := w) (K := K) (mg := mg) (base := base) (N := N_Lcontext) (qual := "_law_context") (st := s_Lcontext) (f := He.fAd K ("_law_context", none)) (cdv := cdv) (A := A) (outer := outer) (s := s) (H := H) (E := E)
    have pz := cxD_passes (n := false) (P := P) (w := w) (K := K) (mg := mg) (base := base) (N := N_Lcontext) (qual := "_law_context") (st := s_Lcontext) (f := He.fAd K ("_law_context", none)) (cdv := cdv) (A := A) (outer := outer) (s := s) (H := H) (E := E)
    exact pss_cons (ps_set (i := 3) nd rfl (by first | exact Or.inl rfl | exact Or.inr rfl) (pe_op o_plus (pe_op o_times (pe_lst (pa_cons (pe_int) (pa_nil))) (pe_int)) (pv 1)))
       (pss_one (ps_ret (pe_callTy c_tuple (by rfl) (He.free_ok KX G (c.fact 26 rfl)) (by decide +kernel) (pa_cons (pe_op o_plus (pe_lc (own := [("_law_place", 4)]) (g := gName 4) (tt := tYes) rfl nd (pi_tup (pv 0)) (blkOk_by (N := N_Lcontext) (sc := defScope s_Lcontext) (by decide +kernel)) (fun _ _ _ _ _ => pg_name (i := 4) nd rfl (by first | exact Or.inl rfl | exact Or.inr rfl)) (fun _ _ _ _ _ => pts_nil) (fun _ _ _ _ _ => pe_ix ix_seq (pv 3) (pe_op o_minus (pe_callB c_len (by rfl) (He.free_ok KX G (c.fact 25 rfl)) (by decide +kernel) (pa_cons (pv 3) (pa_nil))) (pv 4)) (fun _ _ => rfl))) (pe_lst (pa_cons (pv 2) (pa_nil)))) (pa_nil))))))
   (fun vs H Q E h => by
    obtain ⟨_, _, _, rfl, h⟩ := h
    haveI : SaysC K := ⟨c⟩
    exact pure_Lcontext K h))
  ) only [↓Bx.eq]
theorem cb_Lmixed (KX : K.In h) (G : h.Ns mainGlobals mg) (c : SaysX fa fn xf K) : Cb false P w K mg base 1 (He.fAd K ("_law_mixed", none)) ["_law_weights", "_law_chances"] [] (sp_Lmixed K) := by
  refine Bx.out ?_
  simp (disch := with_unfolding_all
  exact (
  cb_of (T := t_Lmixed K) (c.def_ 44 rfl) sc_Lmixed (fun vs H Q E h => by
    obtain ⟨_, _, rfl, _⟩ := h
    rfl) (fun _ _ _ _ _ _ us hl => match us, hl with | [_, _], _ => rfl)
   (fun cdv A outer s H E hr => by
    have nd := sc_Lmixed.nd
    have ho := out_def (cxD_takes (n := false) (P := P) (w := w) (K := K) (mg := mg) (base := base) (N := N_Lmixed) (qual := "_law_mixed") (st := s_Lmixed) (f := He.fAd K ("_law_mixed", none)) (cdv := cdv) (A := A) (outer := outer) (s := s) (H := H) (E := E))
    have tk := cxD_takes (n := false) (P := P) (w := w) (K := K) (mg := mg) (base := base) (N := N_Lmixed) (qual := "_law_mixed") (st := s_Lmixed) (f := He.fAd K ("_law_mixed", none)) (cdv := cdv) (A := A) (outer := outer) (s := s) (H := H) (E := E)
    have pz := cxD_passes (n := false) (P := P) (w := w) (K := K) (mg := mg) (base := base) (N := N_Lmixed) (qual := "_law_mixed") (st := s_Lmixed) (f := He.fAd K ("_law_mixed", none)) (cdv := cdv) (A := A) (outer := outer) (s := s) (H := H) (E := E)
    exact pss_cons (ps_set (i := 2) nd rfl (by first | exact Or.inl rfl | exact Or.inr rfl) (pe_int))
       (pss_cons (ps_for pz rfl (pi_range1 (by rfl) (He.free_ok KX G (c.fact 32 rfl)) (pa_cons (pe_callB c_len (by rfl) (He.free_ok KX G (c.fact 25 rfl)) (by decide +kernel) (pa_cons (pv 0) (pa_nil))) (pa_nil))) (pg_name (i := 3) nd rfl (by first | exact Or.inl rfl | exact Or.inr rfl)) (pss_one (ps_set (i := 2) nd rfl (by first | exact Or.inl rfl | exact Or.inr rfl) (pe_op o_plus (pv 2) (pe_op o_times (pe_ix ix_seq (pv 0) (pv 3) (fun _ _ => rfl)) (pe_ix ix_seq (pv 1) (pv 3) (fun _ _ => rfl)))))))
       (pss_one (ps_ret (pe_op o_floor (pv 2) (pe_callB (c_sum rfl) (by rfl) (He.free_ok KX G (c.fact 31 rfl)) (by decide +kernel) (pa_cons (pv 0) (pa_nil))))))))
   (fun vs H Q E h => by
    obtain ⟨_, _, rfl, h⟩ := h
    haveI : SaysC K := ⟨c⟩
    exact pure_Lmixed K h))
  ) only [↓Bx.eq]
theorem cb_is_bit (KX : K.In h) (G : h.Ns mainGlobals mg) (c : SaysX fa fn xf K) : Cb false P w K mg base 2 (He.fAd K ("is_bit", none)) ["thing"] [] (sp_is_bit K) := by
  refine Bx.out ?_
  simp (disch := with_unfolding_all
  exact (
  cb_of (T := t_is_bit K) (c.def_ 1 rfl) sc_is_bit (fun vs H Q E h => by
    obtain ⟨_, rfl, _⟩ := h
    rfl) (fun _ _ _ _ _ _ us hl => match us, hl with | [_], _ => rfl)
   (fun cdv A outer s H E hr => by
    have nd := sc_is_bit.nd
    have ho := out_def (cxD_takes (n := false) (P := P) (w := w) (K := K) (mg := mg) (base := base) (N := N_is_bit) (qual := "is_bit") (st := s_is_bit) (f := He.fAd K ("is_bit", none)) (cdv := cdv) (A := A) (outer := outer) (s := s) (H := H) (E := E))
    have tk := cxD_takes (n := false) (P := P) (w := w) (K := K) (mg := mg) (base := base) (N := N_is_bit) (qual := "is_bit") (st := s_is_bit) (f := He.fAd K ("is_bit", none)) (cdv := cdv) (A := A) (outer := outer) (s := s) (H := H) (E := E)
    have pz := cxD_passes (n := false) (P := P) (w := w) (K := K) (mg := mg) (base := base) (N := N_is_bit) (qual := "is_bit") (st := s_is_bit) (f := He.fAd K ("is_bit", none)) (cdv := cdv) (A := A) (outer := outer) (s := s) (H := H) (E := E)
    exact pss_one (ps_ret (pe_and (pe_fun (cb_is_whole KX G c) (hr.mono (by decide)) (He.glo_ok KX G (c.fact 33 rfl)) ho (pa_cons (pv 0) (pa_nil))) (pe_one (pe_chain o_le o_le (pe_int) (pv 0) (pe_int))))))
   (fun vs H Q E h => by
    obtain ⟨_, rfl, h⟩ := h
    haveI : SaysC K := ⟨c⟩
    exact pure_is_bit K h))
  ) only [↓Bx.eq]
theorem cb_is_chance (KX : K.In h) (G : h.Ns mainGlobals mg) (c : SaysX fa fn xf K) : Cb false P w K mg base 2 (He.fAd K ("is_chance", none)) ["thing"] [] (sp_is_chance K) := by
  refine Bx.out ?_
  simp (disch := with_unfolding_all
  exact (
  cb_of (T := t_is_chance K) (c.def_ 2 rfl) sc_is_chance (fun vs H Q E h => by
    obtain ⟨_, rfl, _⟩ := h
    rfl) (fun _ _ _ _ _ _ us hl => match us, hl with | [_], _ => rfl)
   (fun cdv A outer s H E hr => by
    have nd := sc_is_chance.nd
    have ho := out_def (cxD_takes (n := false) (P := P) (w := w) (K := K) (mg := mg) (base := base) (N := N_is_chance) (qual := "is_chance") (st := s_is_chance) (f := He.fAd K ("is_chance", none)) (cdv := cdv) (A := A) (outer := outer) (s := s) (H := H) (E := E))
    have tk := cxD_takes (n := false) (P := P) (w := w) (K := K) (mg := mg) (base := base) (N := N_is_chance) (qual := "is_chance") (st := s_is_chance) (f := He.fAd K ("is_chance", none)) (cdv := cdv) (A := A) (outer := outer) (s := s) (H := H) (E := E)
    have pz := cxD_passes (n := false) (P := P) (w := w) (K := K) (mg := mg) (base := base) (N := N_is_chance) (qual := "is_chance") (st := s_is_chance) (f := He.fAd K ("is_chance", none)) (cdv := cdv) (A := A) (outer := outer) (s := s) (H := H) (E := E)
    exact pss_one (ps_ret (pe_and (pe_fun (cb_is_whole KX G c) (hr.mono (by decide)) (He.glo_ok KX G (c.fact 33 rfl)) ho (pa_cons (pv 0) (pa_nil))) (pe_one (pe_chain o_le o_le (pe_gint (He.int_ok KX G (c.fact 34 rfl))) (pv 0) (pe_op o_minus (pe_gint (He.int_ok KX G (c.fact 24 rfl))) (pe_gint (He.int_ok KX G (c.fact 34 rfl)))))))))
   (fun vs H Q E h => by
    obtain ⟨_, rfl, h⟩ := h
    haveI : SaysC K := ⟨c⟩
    exact pure_is_chance K h))
  ) only [↓Bx.eq]
theorem cb_are_places (KX : K.In h) (G : h.Ns mainGlobals mg) (c : SaysX fa fn xf K) : Cb false P w K mg base 2 (He.fAd K ("are_places", none)) ["thing"] [] (sp_are_places K) := by
  refine Bx.out ?_
  simp (disch := with_unfolding_all
  exact (
  cb_of (T := t_are_places K) (c.def_ 16 rfl) sc_are_places (fun vs H Q E h => by
    obtain ⟨_, rfl, _⟩ := h
    rfl) (fun _ _ _ _ _ _ us hl => match us, hl with | [_], _ => rfl)
   (fun cdv A outer s H E hr => by
    have nd := sc_are_places.nd
    have ho := out_def (cxD_takes (n := false) (P := P) (w := w) (K := K) (mg := mg) (base := base) (N := N_are_places) (qual := "are_places") (st := s_are_places) (f := He.fAd K ("are_places", none)) (cdv := cdv) (A := A) (outer := outer) (s := s) (H := H) (E := E))
    have tk := cxD_takes (n := false) (P := P) (w := w) (K := K) (mg := mg) (base := base) (N := N_are_places) (qual := "are_places") (st := s_are_places) (f := He.fAd K ("are_places", none)) (cdv := cdv) (A := A) (outer := outer) (s := s) (H := H) (E := E)
    have pz := cxD_passes (n := false) (P := P) (w := w) (K := K) (mg := mg) (base := base) (N := N_are_places) (qual := "are_places") (st := s_are_places) (f := He.fAd K ("are_places", none)) (cdv := cdv) (A := A) (outer := outer) (s := s) (H := H) (E := E)
    exact pss_cons (ps_if (PW.pt (pw_or (pt_not (pt_tru (pe_callB c_isi (by rfl) (He.free_ok KX G (c.fact 21 rfl)) (by decide +kernel) (pa_cons (pv 0) (pa_cons (pe_gty (He.free_ok KX G (c.fact 26 rfl)) (by decide +kernel)) (pa_nil)))))) (pw_or1 (pt_cmpR o_gt (pe_callB c_len (by rfl) (He.free_ok KX G (c.fact 25 rfl)) (by decide +kernel) (pa_cons (pv 0) (pa_nil))) (pe_gint (He.int_ok KX G (c.fact 35 rfl))) (nomark _))))) (pss_one (ps_ret (pe_bl))) (pss_nil))
       (pss_cons (ps_set (i := 1) nd rfl (by first | exact Or.inl rfl | exact Or.inr rfl) (pe_int))
       (pss_cons (ps_for pz rfl (pi_tup (pv 0)) (pg_name (i := 2) nd rfl (by first | exact Or.inl rfl | exact Or.inr rfl)) (pss_cons (ps_if (PW.pt (pw_or (pt_not (pt_tru (pe_fun (cb_is_whole KX G c) (hr.mono (by decide)) (He.glo_ok KX G (c.fact 33 rfl)) ho (pa_cons (pv 2) (pa_nil))))) (pw_or1 (pt_not (pt_chain o_lt o_le (pv 1) (pv 2) (pe_gint (He.int_ok KX G (c.fact 36 rfl)))))))) (pss_one (ps_ret (pe_bl))) (pss_nil))
       (pss_one (ps_set (i := 1) nd rfl (by first | exact Or.inl rfl | exact Or.inr rfl) (pv 2)))))
       (pss_one (ps_ret (pe_bl))))))
   (fun vs H Q E h => by
    obtain ⟨_, rfl, h⟩ := h
    haveI : SaysC K := ⟨c⟩
    exact pure_are_places K h))
  ) only [↓Bx.eq]
theorem cb_Foreteller_weights (KX : K.In h) (G : h.Ns mainGlobals mg) (c : SaysX fa fn xf K) : Cb false P w K mg base 2 (He.fAd K ("Foreteller", some "weights")) ["self"] [] (sp_Foreteller_weights K) := by
  refine Bx.out ?_
  simp (disch := with_unfolding_all
  exact (
  cb_of (T := t_Foreteller_weights K) (c.def_ 30 rfl) sc_Foreteller_weights (fun vs H Q E h => by
    obtain ⟨_, rfl, _⟩ := h
    rfl) (fun _ _ _ _ _ _ us hl => match us, hl with | [_], _ => rfl)
   (fun cdv A outer s H E hr => by
    have nd := sc_Foreteller_weights.nd
    have ho := out_def (cxD_takes (n := false) (P := P) (w := w) (K := K) (mg := mg) (base := base) (N := N_Foreteller_weights) (qual := "Foreteller.weights") (st := s_Foreteller_weights) (f := He.fAd K ("Foreteller", some "weights")) (cdv := cdv) (A := A) (outer := outer) (s := s) (H := H) (E := E))
    have tk := cxD_takes (n := false) (P := P) (w := w) (K := K) (mg := mg) (base := base) (N := N_Foreteller_weights) (qual := "Foreteller.weights") (st := s_Foreteller_weights) (f := He.fAd K ("Foreteller", some "weights")) (cdv := cdv) (A := A) (outer := outer) (s := s) (H := H) (E := E)
    have pz := cxD_passes (n := false) (P := P) (w := w) (K := K) (mg := mg) (base := base) (N := N_Foreteller_weights) (qual := "Foreteller.weights") (st := s_Foreteller_weights) (f := He.fAd K ("Foreteller", some "weights")) (cdv := cdv) (A := A) (outer := outer) (s := s) (H := H) (E := E)
    exact pss_one (ps_ret (pe_mth0 (k := 1) (pe_fld (pv 0) rfl) (mo_one (He.cls_ok (c.fact 12 rfl)) (He.meth_ok (c.fact 37 rfl)) (cb_Mixer_weights KX G c) (by decide)) hr ho)))
   (fun vs H Q E h => by
    obtain ⟨_, rfl, h⟩ := h
    haveI : SaysC K := ⟨c⟩
    exact pure_Foreteller_weights K h))
  ) only [↓Bx.eq]
theorem cb_Llooks (KX : K.In h) (G : h.Ns mainGlobals mg) (c : SaysX fa fn xf K) : Cb false P w K mg base 2 (He.fAd K ("_law_looks", none)) ["_law_script"] [] (sp_Llooks K) := by
  refine Bx.out ?_
  simp (disch := with_unfolding_all
  exact (
  cb_of (T := t_Llooks K) (c.def_ 37 rfl) sc_Llooks (fun vs H Q E h => by
    obtain ⟨_, rfl, _⟩ := h
    rfl) (fun _ _ _ _ _ _ us hl => match us, hl with | [_], _ => rfl)
   (fun cdv A outer s H E hr => by
    have nd := sc_Llooks.nd
    have ho := out_def (cxD_takes (n := false) (P := P) (w := w) (K := K) (mg := mg) (base := base) (N := N_Llooks) (qual := "_law_looks") (st := s_Llooks) (f := He.fAd K ("_law_looks", none)) (cdv := cdv) (A := A) (outer := outer) (s := s) (H := H) (E := E))
    have tk := cxD_takes (n := false) (P := P) (w := w) (K := K) (mg := mg) (base := base) (N := N_Llooks) (qual := "_law_looks") (st := s_Llooks) (f := He.fAd K ("_law_looks", none)) (cdv := cdv) (A := A) (outer := outer) (s := s) (H := H) (E := E)
    have pz := cxD_passes (n := false) (P := P) (w := w) (K := K) (mg := mg) (base := base) (N := N_Llooks) (qual := "_law_looks") (st := s_Llooks) (f := He.fAd K ("_law_looks", none)) (cdv := cdv) (A := A) (outer := outer) (s := s) (H := H) (E := E)
    exact pss_cons (ps_set (i := 1) nd rfl (by first | exact Or.inl rfl | exact Or.inr rfl) (pe_op o_plus (pe_int) (pe_op o_rest (pe_fun (cb_Lcell_at KX G c) (hr.mono (by decide)) (He.glo_ok KX G (c.fact 38 rfl)) ho (pa_cons (pv 0) (pa_cons (pe_int) (pa_nil)))) (pe_int))))
       (pss_cons (ps_if (pt_cmpR (o_same hr.units) (pe_op o_rest (pe_op o_floor (pe_fun (cb_Lcell_at KX G c) (hr.mono (by decide)) (He.glo_ok KX G (c.fact 38 rfl)) ho (pa_cons (pv 0) (pa_cons (pe_int) (pa_nil)))) (pe_int)) (pe_int)) (pe_int) (nomark _)) (pss_one (ps_set (i := 1) nd rfl (by first | exact Or.inl rfl | exact Or.inr rfl) (pe_op o_plus (pv 1) (pe_int)))) (pss_nil))
       (pss_one (ps_ret (pe_lc (own := [("_law_k", 2)]) (g := gName 2) (tt := tYes) rfl nd (pi_range1 (by rfl) (He.free_ok KX G (c.fact 32 rfl)) (pa_cons (pv 1) (pa_nil))) (blkOk_by (N := N_Llooks) (sc := defScope s_Llooks) (by decide +kernel)) (fun _ _ _ _ _ => pg_name (i := 2) nd rfl (by first | exact Or.inl rfl | exact Or.inr rfl)) (fun _ _ _ _ _ => pts_nil) (fun _ _ _ _ _ => pe_fun (cb_Llook KX G c) (hr.mono (by decide)) (He.glo_ok KX G (c.fact 39 rfl)) out_none (pa_cons (pe_fun (cb_Lcell_at KX G c) (hr.mono (by decide)) (He.glo_ok KX G (c.fact 38 rfl)) out_none (pa_cons (pv 0) (pa_cons (pe_op o_plus (pe_int) (pv 2)) (pa_nil)))) (pa_nil))))))))
   (fun vs H Q E h => by
    obtain ⟨_, rfl, h⟩ := h
    haveI : SaysC K := ⟨c⟩
    exact pure_Llooks K h))
  ) only [↓Bx.eq]
theorem cb_Ltext (KX : K.In h) (G : h.Ns mainGlobals mg) (c : SaysX fa fn xf K) : Cb false P w K mg base 2 (He.fAd K ("_law_text", none)) ["_law_script", "_law_at", "_law_many"] [] (sp_Ltext K) := by
  refine Bx.out ?_
  simp (disch := with_unfolding_all
  exact (
  cb_of (T := t_Ltext K) (c.def_ 39 rfl) sc_Ltext (fun vs H Q E h => by
    obtain ⟨_, _, _, rfl, _⟩ := h
    rfl) (fun _ _ _ _ _ _ us hl => match us, hl with | [_, _, _], _ => rfl)
   (fun cdv A outer s H E hr => by
    have nd := sc_Ltext.nd
    have ho := out_def (cxD_takes (n := false) (P := P) (w := w) (K := K) (mg := mg) (base := base) (N := N_Ltext) (qual := "_law_text") (st := s_Ltext) (f := He.fAd K ("_law_text", none)) (cdv := cdv) (A := A) (outer := outer) (s := s) (H := H) (E := E))
    have tk := cxD_takes (n := false) (P := P) (w := w) (K := K) (mg := mg) (base := base) (N := N_Ltext) (qual := "_law_text") (st := s_Ltext) (f := He.fAd K ("_law_text", none)) (cdv := cdv) (A := A) (outer := outer) (s := s) (H := H) (E := E)
    have pz := cxD_passes (n := false) (P := P) (w := w) (K := K) (mg := mg) (base := base) (N := N_Ltext) (qual := "_law_text") (st := s_Ltext) (f := He.fAd K ("_law_text", none)) (cdv := cdv) (A := A) (outer := outer) (s := s) (H := H) (E := E)
    exact pss_cons (ps_set (i := 3) nd rfl (by first | exact Or.inl rfl | exact Or.inr rfl) (pe_op o_rest (pe_fun (cb_Lcell_at KX G c) (hr.mono (by decide)) (He.glo_ok KX G (c.fact 38 rfl)) ho (pa_cons (pv 0) (pa_cons (pe_int) (pa_nil)))) (pe_int)))
       (pss_one (ps_ret (pe_lc (own := [("_law_k", 4)]) (g := gName 4) (tt := tYes) rfl nd (pi_range1 (by rfl) (He.free_ok KX G (c.fact 32 rfl)) (pa_cons (pv 2) (pa_nil))) (blkOk_by (N := N_Ltext) (sc := defScope s_Ltext) (by decide +kernel)) (fun _ _ _ _ _ => pg_name (i := 4) nd rfl (by first | exact Or.inl rfl | exact Or.inr rfl)) (fun _ _ _ _ _ => pts_nil) (fun _ _ _ _ _ => pe_fun (cb_Lsign KX G c) (hr.mono (by decide)) (He.glo_ok KX G (c.fact 40 rfl)) out_none (pa_cons (pe_fun (cb_Lcell_at KX G c) (hr.mono (by decide)) (He.glo_ok KX G (c.fact 38 rfl)) out_none (pa_cons (pv 0) (pa_cons (pe_op o_plus (pv 1) (pv 4)) (pa_nil)))) (pa_cons (pv 3) (pa_nil))))))))
   (fun vs H Q E h => by
    obtain ⟨_, _, _, rfl, h⟩ := h
    haveI : SaysC K := ⟨c⟩
    exact pure_Ltext K h))
  ) only [↓Bx.eq]
theorem cb_checked_bit (KX : K.In h) (G : h.Ns mainGlobals mg) (c : SaysX fa fn xf K) : Cb false P w K mg base 3 (He.fAd K ("checked_bit", none)) ["thing"] [] (sp_checked_bit K) := by
  refine Bx.out ?_
  simp (disch := with_unfolding_all
  exact (
  cb_of (T := t_checked_bit K) (c.def_ 3 rfl) sc_checked_bit (fun vs H Q E h => by
    obtain ⟨_, rfl, _⟩ := h
    rfl) (fun _ _ _ _ _ _ us hl => match us, hl with | [_], _ => rfl)
   (fun cdv A outer s H E hr => by
    have nd := sc_checked_bit.nd
    have ho := out_def (cxD_takes (n := false) (P := P) (w := w) (K := K) (mg := mg) (base := base) (N := N_checked_bit) (qual := "checked_bit") (st := s_checked_bit) (f := He.fAd K ("checked_bit", none)) (cdv := cdv) (A := A) (outer := outer) (s := s) (H := H) (E := E))
    have tk := cxD_takes (n := false) (P := P) (w := w) (K := K) (mg := mg) (base := base) (N := N_checked_bit) (qual := "checked_bit") (st := s_checked_bit) (f := He.fAd K ("checked_bit", none)) (cdv := cdv) (A := A) (outer := outer) (s := s) (H := H) (E := E)
    have pz := cxD_passes (n := false) (P := P) (w := w) (K := K) (mg := mg) (base := base) (N := N_checked_bit) (qual := "checked_bit") (st := s_checked_bit) (f := He.fAd K ("checked_bit", none)) (cdv := cdv) (A := A) (outer := outer) (s := s) (H := H) (E := E)
    exact pss_cons (ps_if (pt_not (pt_tru (pe_fun (cb_is_bit KX G c) (hr.mono (by decide)) (He.glo_ok KX G (c.fact 41 rfl)) ho (pa_cons (pv 0) (pa_nil))))) (pss_one (ps_rz (exn_ok KX G (c.fact 42 rfl) (c.fact 43 rfl)) rfl tk)) (pss_nil))
       (pss_one (ps_ret (pv 0))))
   (fun vs H Q E h => by
    obtain ⟨_, rfl, h⟩ := h
    haveI : SaysC K := ⟨c⟩
    exact pure_checked_bit K h))
  ) only [↓Bx.eq]
theorem cb_checked_chance (KX : K.In h) (G : h.Ns mainGlobals mg) (c : SaysX fa fn xf K) : Cb false P w K mg base 3 (He.fAd K ("checked_chance", none)) ["thing"] [] (sp_checked_chance K) := by
  refine Bx.out ?_
  simp (disch := with_unfolding_all
  exact (
  cb_of (T := t_checked_chance K) (c.def_ 4 rfl) sc_checked_chance (fun vs H Q E h => by
    obtain ⟨_, rfl, _⟩ := h
    rfl) (fun _ _ _ _ _ _ us hl => match us, hl with | [_], _ => rfl)
   (fun cdv A outer s H E hr => by
    have nd := sc_checked_chance.nd
    have ho := out_def (cxD_takes (n := false) (P := P) (w := w) (K := K) (mg := mg) (base := base) (N := N_checked_chance) (qual := "checked_chance") (st := s_checked_chance) (f := He.fAd K ("checked_chance", none)) (cdv := cdv) (A := A) (outer := outer) (s := s) (H := H) (E := E))
    have tk := cxD_takes (n := false) (P := P) (w := w) (K := K) (mg := mg) (base := base) (N := N_checked_chance) (qual := "checked_chance") (st := s_checked_chance) (f := He.fAd K ("checked_chance", none)) (cdv := cdv) (A := A) (outer := outer) (s := s) (H := H) (E := E)
    have pz := cxD_passes (n := false) (P := P) (w := w) (K := K) (mg := mg) (base := base) (N := N_checked_chance) (qual := "checked_chance") (st := s_checked_chance) (f := He.fAd K ("checked_chance", none)) (cdv := cdv) (A := A) (outer := outer) (s := s) (H := H) (E := E)
    exact pss_cons (ps_if (pt_not (pt_tru (pe_fun (cb_is_chance KX G c) (hr.mono (by decide)) (He.glo_ok KX G (c.fact 44 rfl)) ho (pa_cons (pv 0) (pa_nil))))) (pss_one (ps_rz (exn_ok KX G (c.fact 45 rfl) (c.fact 46 rfl)) rfl tk)) (pss_nil))
       (pss_one (ps_ret (pv 0))))
   (fun vs H Q E h => by
    obtain ⟨_, rfl, h⟩ := h
    haveI : SaysC K := ⟨c⟩
    exact pure_checked_chance K h))
  ) only [↓Bx.eq]
theorem cb_slot_of (KX : K.In h) (G : h.Ns mainGlobals mg) (c : SaysX fa fn xf K) : Cb false P w K mg base 3 (He.fAd K ("slot_of", none)) ["kind"] [] (sp_slot_of K) := by
  refine Bx.out ?_
  simp (disch := with_unfolding_all
  exact (
  cb_of (T := t_slot_of K) (c.def_ 15 rfl) sc_slot_of (fun vs H Q E h => by
    obtain ⟨_, rfl, _⟩ := h
    rfl) (fun _ _ _ _ _ _ us hl => match us, hl with | [_], _ => rfl)
   (fun cdv A outer s H E hr => by
    have nd := sc_slot_of.nd
    have ho := out_def (cxD_takes (n := false) (P := P) (w := w) (K := K) (mg := mg) (base := base) (N := N_slot_of) (qual := "slot_of") (st := s_slot_of) (f := He.fAd K ("slot_of", none)) (cdv := cdv) (A := A) (outer := outer) (s := s) (H := H) (E := E))
    have tk := cxD_takes (n := false) (P := P) (w := w) (K := K) (mg := mg) (base := base) (N := N_slot_of) (qual := "slot_of") (st := s_slot_of) (f := He.fAd K ("slot_of", none)) (cdv := cdv) (A := A) (outer := outer) (s := s) (H := H) (E := E)
    have pz := cxD_passes (n := false) (P := P) (w := w) (K := K) (mg := mg) (base := base) (N := N_slot_of) (qual := "slot_of") (st := s_slot_of) (f := He.fAd K ("slot_of", none)) (cdv := cdv) (A := A) (outer := outer) (s := s) (H := H) (E := E)
    exact pss_cons (ps_if (pt_cmpR (o_same hr.units) (pv 0) (pe_str) (nomark _)) (pss_one (ps_ret (pe_new0 (He.mkr_ok (c.fact 50 rfl)) (cb_Even_init KX G c) (hr.mono (by decide)) (He.glo_ok KX G (c.fact 47 rfl)) ho))) (pss_nil))
       (pss_cons (ps_if (pt_cmpR (o_same hr.units) (pv 0) (pe_str) (nomark _)) (pss_one (ps_ret (pe_new0 (He.mkr_ok (c.fact 51 rfl)) (cb_Quick_init KX G c) (hr.mono (by decide)) (He.glo_ok KX G (c.fact 48 rfl)) ho))) (pss_nil))
       (pss_one (ps_ret (pe_new0 (He.mkr_ok (c.fact 52 rfl)) (cb_Run_init KX G c) (hr.mono (by decide)) (He.glo_ok KX G (c.fact 49 rfl)) ho)))))
   (fun vs H Q E h => by
    obtain ⟨_, rfl, h⟩ := h
    haveI : SaysC K := ⟨c⟩
    exact pure_slot_of K h))
  ) only [↓Bx.eq]
theorem cb_is_look (KX : K.In h) (G : h.Ns mainGlobals mg) (c : SaysX fa fn xf K) : Cb false P w K mg base 3 (He.fAd K ("is_look", none)) ["thing"] [] (sp_is_look K) := by
  refine Bx.out ?_
  simp (disch := with_unfolding_all
  exact (
  cb_of (T := t_is_look K) (c.def_ 17 rfl) sc_is_look (fun vs H Q E h => by
    obtain ⟨_, rfl, _⟩ := h
    rfl) (fun _ _ _ _ _ _ us hl => match us, hl with | [_], _ => rfl)
   (fun cdv A outer s H E hr => by
    have nd := sc_is_look.nd
    have ho := out_def (cxD_takes (n := false) (P := P) (w := w) (K := K) (mg := mg) (base := base) (N := N_is_look) (qual := "is_look") (st := s_is_look) (f := He.fAd K ("is_look", none)) (cdv := cdv) (A := A) (outer := outer) (s := s) (H := H) (E := E))
    have tk := cxD_takes (n := false) (P := P) (w := w) (K := K) (mg := mg) (base := base) (N := N_is_look) (qual := "is_look") (st := s_is_look) (f := He.fAd K ("is_look", none)) (cdv := cdv) (A := A) (outer := outer) (s := s) (H := H) (E := E)
    have pz := cxD_passes (n := false) (P := P) (w := w) (K := K) (mg := mg) (base := base) (N := N_is_look) (qual := "is_look") (st := s_is_look) (f := He.fAd K ("is_look", none)) (cdv := cdv) (A := A) (outer := outer) (s := s) (H := H) (E := E)
    exact pss_cons (ps_if (PW.pt (pw_or (pt_not (pt_tru (pe_callB c_isi (by rfl) (He.free_ok KX G (c.fact 21 rfl)) (by decide +kernel) (pa_cons (pv 0) (pa_cons (pe_gty (He.free_ok KX G (c.fact 26 rfl)) (by decide +kernel)) (pa_nil)))))) (pw_or1 (pt_cmpR (o_diff hr.units) (pe_callB c_len (by rfl) (He.free_ok KX G (c.fact 25 rfl)) (by decide +kernel) (pa_cons (pv 0) (pa_nil))) (pe_int) (nomark _))))) (pss_one (ps_ret (pe_bl))) (pss_nil))
       (pss_one (ps_ret (pe_and (pe_callB c_isi (by rfl) (He.free_ok KX G (c.fact 21 rfl)) (by decide +kernel) (pa_cons (pe_ix ix_seq (pv 0) (pe_int) (fun _ _ => rfl)) (pa_cons (pe_gty (He.free_ok KX G (c.fact 53 rfl)) (by decide +kernel)) (pa_nil)))) (pe_and (pe_cmpR o_among (pe_ix ix_seq (pv 0) (pe_int) (fun _ _ => rfl)) (pe_gref (He.glo_ok KX G (c.fact 54 rfl))) rfl) (pe_one (pe_fun (cb_are_places KX G c) (hr.mono (by decide)) (He.glo_ok KX G (c.fact 55 rfl)) ho (pa_cons (pe_ix ix_seq (pv 0) (pe_int) (fun _ _ => rfl)) (pa_nil)))))))))
   (fun vs H Q E h => by
    obtain ⟨_, rfl, h⟩ := h
    haveI : SaysC K := ⟨c⟩
    exact pure_is_look K h))
  ) only [↓Bx.eq]
theorem cb_gives (KX : K.In h) (G : h.Ns mainGlobals mg) (c : SaysX fa fn xf K) : Cb false P w K mg base 4 (He.fAd K ("gives", none)) ["chance", "bit"] [] (sp_gives K) := by
  refine Bx.out ?_
  simp (disch := with_unfolding_all
  exact (
  cb_of (T := t_gives K) (c.def_ 5 rfl) sc_gives (fun vs H Q E h => by
    obtain ⟨_, _, rfl, _⟩ := h
    rfl) (fun _ _ _ _ _ _ us hl => match us, hl with | [_, _], _ => rfl)
   (fun cdv A outer s H E hr => by
    have nd := sc_gives.nd
    have ho := out_def (cxD_takes (n := false) (P := P) (w := w) (K := K) (mg := mg) (base := base) (N := N_gives) (qual := "gives") (st := s_gives) (f := He.fAd K ("gives", none)) (cdv := cdv) (A := A) (outer := outer) (s := s) (H := H) (E := E))
    have tk := cxD_takes (n := false) (P := P) (w := w) (K := K) (mg := mg) (base := base) (N := N_gives) (qual := "gives") (st := s_gives) (f := He.fAd K ("gives", none)) (cdv := cdv) (A := A) (outer := outer) (s := s) (H := H) (E := E)
    have pz := cxD_passes (n := false) (P := P) (w := w) (K := K) (mg := mg) (base := base) (N := N_gives) (qual := "gives") (st := s_gives) (f := He.fAd K ("gives", none)) (cdv := cdv) (A := A) (outer := outer) (s := s) (H := H) (E := E)
    exact pss_cons (ps_set (i := 2) nd rfl (by first | exact Or.inl rfl | exact Or.inr rfl) (pe_fun (cb_checked_chance KX G c) (hr.mono (by decide)) (He.glo_ok KX G (c.fact 56 rfl)) ho (pa_cons (pv 0) (pa_nil))))
       (pss_cons (ps_if (pt_cmpR (o_same hr.units) (pe_fun (cb_checked_bit KX G c) (hr.mono (by decide)) (He.glo_ok KX G (c.fact 57 rfl)) ho (pa_cons (pv 1) (pa_nil))) (pe_int) (nomark _)) (pss_one (ps_ret (pv 2))) (pss_nil))
       (pss_one (ps_ret (pe_op o_minus (pe_gint (He.int_ok KX G (c.fact 24 rfl))) (pv 2))))))
   (fun vs H Q E h => by
    obtain ⟨_, _, rfl, h⟩ := h
    haveI : SaysC K := ⟨c⟩
    exact pure_gives K h))
  ) only [↓Bx.eq]
theorem cb_Even_seen (KX : K.In h) (G : h.Ns mainGlobals mg) (c : SaysX fa fn xf K) : Cb false P w K mg base 4 (He.fAd K ("Even", some "seen")) ["self", "bit"] [] (sp_Even_seen K) := by
  refine Bx.out ?_
  simp (disch := with_unfolding_all
  exact (
  cb_of (T := t_Even_seen K) (c.def_ 8 rfl) sc_Even_seen (fun vs H Q E h => by
    obtain ⟨_, _, rfl, _⟩ := h
    rfl) (fun _ _ _ _ _ _ us hl => match us, hl with | [_, _], _ => rfl)
   (fun cdv A outer s H E hr => by
    have nd := sc_Even_seen.nd
    have ho := out_def (cxD_takes (n := false) (P := P) (w := w) (K := K) (mg := mg) (base := base) (N := N_Even_seen) (qual := "Even.seen") (st := s_Even_seen) (f := He.fAd K ("Even", some "seen")) (cdv := cdv) (A := A) (outer := outer) (s := s) (H := H) (E := E))
    have tk := cxD_takes (n := false) (P := P) (w := w) (K := K) (mg := mg) (base := base) (N := N_Even_seen) (qual := "Even.seen") (st := s_Even_seen) (f := He.fAd K ("Even", some "seen")) (cdv := cdv) (A := A) (outer := outer) (s := s) (H := H) (E := E)
    have pz := cxD_passes (n := false) (P := P) (w := w) (K := K) (mg := mg) (base := base) (N := N_Even_seen) (qual := "Even.seen") (st := s_Even_seen) (f := He.fAd K ("Even", some "seen")) (cdv := cdv) (A := A) (outer := outer) (s := s) (H := H) (E := E)
    exact pss_cons (ps_if (pt_cmpR (o_same hr.units) (pe_fun (cb_checked_bit KX G c) (hr.mono (by decide)) (He.glo_ok KX G (c.fact 57 rfl)) ho (pa_cons (pv 1) (pa_nil))) (pe_int) (nomark _)) (pss_one (ps_fldaug (pv 0) (pe_int) in_add)) (pss_one (ps_fldaug (pv 0) (pe_int) in_add)))
       (pss_one (ps_if (pt_cmpR o_gt (pe_op o_plus (pe_fld (pv 0) rfl) (pe_fld (pv 0) rfl)) (pe_gint (He.int_ok KX G (c.fact 58 rfl))) (nomark _)) (pss_cons (ps_fld (pv 0) (pe_op o_floor (pe_op o_plus (pe_fld (pv 0) rfl) (pe_int)) (pe_int)) rfl)
       (pss_one (ps_fld (pv 0) (pe_op o_floor (pe_op o_plus (pe_fld (pv 0) rfl) (pe_int)) (pe_int)) rfl))) (pss_nil))))
   (fun vs H Q E h => by
    obtain ⟨_, _, rfl, h⟩ := h
    haveI : SaysC K := ⟨c⟩
    exact pure_Even_seen K h))
  ) only [↓Bx.eq]
theorem cb_Quick_seen (KX : K.In h) (G : h.Ns mainGlobals mg) (c : SaysX fa fn xf K) : Cb false P w K mg base 4 (He.fAd K ("Quick", some "seen")) ["self", "bit"] [] (sp_Quick_seen K) := by
  refine Bx.out ?_
  simp (disch := with_unfolding_all
  exact (
  cb_of (T := t_Quick_seen K) (c.def_ 11 rfl) sc_Quick_seen (fun vs H Q E h => by
    obtain ⟨_, _, rfl, _⟩ := h
    rfl) (fun _ _ _ _ _ _ us hl => match us, hl with | [_, _], _ => rfl)
   (fun cdv A outer s H E hr => by
    have nd := sc_Quick_seen.nd
    have ho := out_def (cxD_takes (n := false) (P := P) (w := w) (K := K) (mg := mg) (base := base) (N := N_Quick_seen) (qual := "Quick.seen") (st := s_Quick_seen) (f := He.fAd K ("Quick", some "seen")) (cdv := cdv) (A := A) (outer := outer) (s := s) (H := H) (E := E))
    have tk := cxD_takes (n := false) (P := P) (w := w) (K := K) (mg := mg) (base := base) (N := N_Quick_seen) (qual := "Quick.seen") (st := s_Quick_seen) (f := He.fAd K ("Quick", some "seen")) (cdv := cdv) (A := A) (outer := outer) (s := s) (H := H) (E := E)
    have pz := cxD_passes (n := false) (P := P) (w := w) (K := K) (mg := mg) (base := base) (N := N_Quick_seen) (qual := "Quick.seen") (st := s_Quick_seen) (f := He.fAd K ("Quick", some "seen")) (cdv := cdv) (A := A) (outer := outer) (s := s) (H := H) (E := E)
    exact pss_cons (ps_if (pt_cmpR (o_same hr.units) (pe_fun (cb_checked_bit KX G c) (hr.mono (by decide)) (He.glo_ok KX G (c.fact 57 rfl)) ho (pa_cons (pv 1) (pa_nil))) (pe_int) (nomark _)) (pss_one (ps_fldaug (pv 0) (pe_op o_floor (pe_op o_minus (pe_gint (He.int_ok KX G (c.fact 24 rfl))) (pe_fld (pv 0) rfl)) (pe_int)) in_add)) (pss_one (ps_fldaug (pv 0) (pe_op o_floor (pe_fld (pv 0) rfl) (pe_int)) in_sub)))
       (pss_one (ps_fld (pv 0) (pe_callB (c_max rfl) (by rfl) (He.free_ok KX G (c.fact 59 rfl)) (by decide +kernel) (pa_cons (pe_gint (He.int_ok KX G (c.fact 34 rfl))) (pa_cons (pe_callB (c_min rfl) (by rfl) (He.free_ok KX G (c.fact 60 rfl)) (by decide +kernel) (pa_cons (pe_op o_minus (pe_gint (He.int_ok KX G (c.fact 24 rfl))) (pe_gint (He.int_ok KX G (c.fact 34 rfl)))) (pa_cons (pe_fld (pv 0) rfl) (pa_nil)))) (pa_nil)))) rfl)))
   (fun vs H Q E h => by
    obtain ⟨_, _, rfl, h⟩ := h
    haveI : SaysC K := ⟨c⟩
    exact pure_Quick_seen K h))
  ) only [↓Bx.eq]
theorem cb_Run_seen (KX : K.In h) (G : h.Ns mainGlobals mg) (c : SaysX fa fn xf K) : Cb false P w K mg base 4 (He.fAd K ("Run", some "seen")) ["self", "bit"] [] (sp_Run_seen K) := by
  refine Bx.out ?_
  simp (disch := with_unfolding_all
  exact (
  cb_of (T := t_Run_seen K) (c.def_ 14 rfl) sc_Run_seen (fun vs H Q E h => by
    obtain ⟨_, _, rfl, _⟩ := h
    rfl) (fun _ _ _ _ _ _ us hl => match us, hl with | [_, _], _ => rfl)
   (fun cdv A outer s H E hr => by
    have nd := sc_Run_seen.nd
    have ho := out_def (cxD_takes (n := false) (P := P) (w := w) (K := K) (mg := mg) (base := base) (N := N_Run_seen) (qual := "Run.seen") (st := s_Run_seen) (f := He.fAd K ("Run", some "seen")) (cdv := cdv) (A := A) (outer := outer) (s := s) (H := H) (E := E))
    have tk := cxD_takes (n := false) (P := P) (w := w) (K := K) (mg := mg) (base := base) (N := N_Run_seen) (qual := "Run.seen") (st := s_Run_seen) (f := He.fAd K ("Run", some "seen")) (cdv := cdv) (A := A) (outer := outer) (s := s) (H := H) (E := E)
    have pz := cxD_passes (n := false) (P := P) (w := w) (K := K) (mg := mg) (base := base) (N := N_Run_seen) (qual := "Run.seen") (st := s_Run_seen) (f := He.fAd K ("Run", some "seen")) (cdv := cdv) (A := A) (outer := outer) (s := s) (H := H) (E := E)
    exact pss_one (ps_if (pt_cmpR (o_same hr.units) (pe_fun (cb_checked_bit KX G c) (hr.mono (by decide)) (He.glo_ok KX G (c.fact 57 rfl)) ho (pa_cons (pv 1) (pa_nil))) (pe_fld (pv 0) rfl) (nomark _)) (pss_one (ps_fld (pv 0) (pe_callB (c_min rfl) (by rfl) (He.free_ok KX G (c.fact 60 rfl)) (by decide +kernel) (pa_cons (pe_op o_plus (pe_fld (pv 0) rfl) (pe_int)) (pa_cons (pe_gint (He.int_ok KX G (c.fact 58 rfl))) (pa_nil)))) rfl)) (pss_cons (ps_fld (pv 0) (pv 1) rfl)
       (pss_one (ps_fld (pv 0) (pe_int) rfl)))))
   (fun vs H Q E h => by
    obtain ⟨_, _, rfl, h⟩ := h
    haveI : SaysC K := ⟨c⟩
    exact pure_Run_seen K h))
  ) only [↓Bx.eq]
theorem cb_checked_looks (KX : K.In h) (G : h.Ns mainGlobals mg) (c : SaysX fa fn xf K) : Cb false P w K mg base 4 (He.fAd K ("checked_looks", none)) ["thing"] [] (sp_checked_looks K) := by
  refine Bx.out ?_
  simp (disch := with_unfolding_all
  exact (
  cb_of (T := t_checked_looks K) (c.def_ 18 rfl) sc_checked_looks (fun vs H Q E h => by
    obtain ⟨_, rfl, _⟩ := h
    rfl) (fun _ _ _ _ _ _ us hl => match us, hl with | [_], _ => rfl)
   (fun cdv A outer s H E hr => by
    have nd := sc_checked_looks.nd
    have ho := out_def (cxD_takes (n := false) (P := P) (w := w) (K := K) (mg := mg) (base := base) (N := N_checked_looks) (qual := "checked_looks") (st := s_checked_looks) (f := He.fAd K ("checked_looks", none)) (cdv := cdv) (A := A) (outer := outer) (s := s) (H := H) (E := E))
    have tk := cxD_takes (n := false) (P := P) (w := w) (K := K) (mg := mg) (base := base) (N := N_checked_looks) (qual := "checked_looks") (st := s_checked_looks) (f := He.fAd K ("checked_looks", none)) (cdv := cdv) (A := A) (outer := outer) (s := s) (H := H) (E := E)
    have pz := cxD_passes (n := false) (P := P) (w := w) (K := K) (mg := mg) (base := base) (N := N_checked_looks) (qual := "checked_looks") (st := s_checked_looks) (f := He.fAd K ("checked_looks", none)) (cdv := cdv) (A := A) (outer := outer) (s := s) (H := H) (E := E)
    exact pss_cons (ps_if (PW.pt (pw_or (pt_not (pt_tru (pe_callB c_isi (by rfl) (He.free_ok KX G (c.fact 21 rfl)) (by decide +kernel) (pa_cons (pv 0) (pa_cons (pe_gty (He.free_ok KX G (c.fact 29 rfl)) (by decide +kernel)) (pa_nil)))))) (pw_or1 (pt_not (pt_chain o_le o_le (pe_int) (pe_callB c_len (by rfl) (He.free_ok KX G (c.fact 25 rfl)) (by decide +kernel) (pa_cons (pv 0) (pa_nil))) (pe_gint (He.int_ok KX G (c.fact 63 rfl)))))))) (pss_one (ps_rz (exn_ok KX G (c.fact 64 rfl) (c.fact 65 rfl)) rfl tk)) (pss_nil))
       (pss_cons (ps_if (pt_not (pt_tru (pe_callB (c_all rfl) (by rfl) (He.free_ok KX G (c.fact 61 rfl)) (by decide +kernel) (pa_cons (pe_lc (own := [("look", 1)]) (g := gName 1) (tt := tYes) rfl nd (pi_list (pv 0)) (blkOk_by (N := N_checked_looks) (sc := defScope s_checked_looks) (by decide +kernel)) (fun _ _ _ _ _ => pg_name (i := 1) nd rfl (by first | exact Or.inl rfl | exact Or.inr rfl)) (fun _ _ _ _ _ => pts_nil) (fun _ _ _ _ _ => pe_fun (cb_is_look KX G c) (hr.mono (by decide)) (He.glo_ok KX G (c.fact 62 rfl)) out_none (pa_cons (pv 1) (pa_nil)))) (pa_nil))))) (pss_one (ps_rz (exn_ok KX G (c.fact 64 rfl) (c.fact 65 rfl)) rfl tk)) (pss_nil))
       (pss_one (ps_ret (pe_callTy c_list (by rfl) (He.free_ok KX G (c.fact 29 rfl)) (by decide +kernel) (pa_cons (pv 0) (pa_nil)))))))
   (fun vs H Q E h => by
    obtain ⟨_, rfl, h⟩ := h
    haveI : SaysC K := ⟨c⟩
    exact pure_checked_looks K h))
  ) only [↓Bx.eq]
theorem cb_Book_chance (KX : K.In h) (G : h.Ns mainGlobals mg) (c : SaysX fa fn xf K) : Cb false P w K mg base 4 (He.fAd K ("Book", some "chance")) ["self", "signs", "node"] [] (sp_Book_chance K) := by
  refine Bx.out ?_
  simp (disch := with_unfolding_all
  exact (
  cb_of (T := t_Book_chance K) (c.def_ 21 rfl) sc_Book_chance (fun vs H Q E h => by
    obtain ⟨_, _, _, rfl, _⟩ := h
    rfl) (fun _ _ _ _ _ _ us hl => match us, hl with | [_, _, _], _ => rfl)
   (fun cdv A outer s H E hr => by
    have nd := sc_Book_chance.nd
    have ho := out_def (cxD_takes (n := false) (P := P) (w := w) (K := K) (mg := mg) (base := base) (N := N_Book_chance) (qual := "Book.chance") (st := s_Book_chance) (f := He.fAd K ("Book", some "chance")) (cdv := cdv) (A := A) (outer := outer) (s := s) (H := H) (E := E))
    have tk := cxD_takes (n := false) (P := P) (w := w) (K := K) (mg := mg) (base := base) (N := N_Book_chance) (qual := "Book.chance") (st := s_Book_chance) (f := He.fAd K ("Book", some "chance")) (cdv := cdv) (A := A) (outer := outer) (s := s) (H := H) (E := E)
    have pz := cxD_passes (n := false) (P := P) (w := w) (K := K) (mg := mg) (base := base) (N := N_Book_chance) (qual := "Book.chance") (st := s_Book_chance) (f := He.fAd K ("Book", some "chance")) (cdv := cdv) (A := A) (outer := outer) (s := s) (H := H) (E := E)
    exact pss_cons (ps_set (i := 3) nd rfl (by first | exact Or.inl rfl | exact Or.inr rfl) (pe_fun (cb_context_of KX G c) (hr.mono (by decide)) (He.glo_ok KX G (c.fact 66 rfl)) ho (pa_cons (pe_fld (pv 0) rfl) (pa_cons (pv 1) (pa_cons (pv 2) (pa_nil))))))
       (pss_cons (ps_if (pt_cmp (pc_din (hu_of hr) (pv 3) (pe_fld (pv 0) rfl))) (pss_one (ps_ret (pe_mth0 (k := 3) (pe_dget (hu_of hr) (pe_fld (pv 0) rfl) (pv 3) (fun _ _ => rfl)) (mo_or (mo_one (He.cls_ok (c.fact 1 rfl)) (He.meth_ok (c.fact 68 rfl)) (cb_Even_chance KX G c) (by decide)) (mo_or (mo_one (He.cls_ok (c.fact 4 rfl)) (He.meth_ok (c.fact 69 rfl)) (cb_Quick_chance KX G c) (by decide)) (mo_one (He.cls_ok (c.fact 6 rfl)) (He.meth_ok (c.fact 70 rfl)) (cb_Run_chance KX G c) (by decide)))) hr ho))) (pss_nil))
       (pss_one (ps_ret (pe_mth0 (k := 3) (pe_fun (cb_slot_of KX G c) (hr.mono (by decide)) (He.glo_ok KX G (c.fact 67 rfl)) ho (pa_cons (pe_ix ix_seq (pe_fld (pv 0) rfl) (pe_int) (fun _ _ => rfl)) (pa_nil))) (mo_or (mo_one (He.cls_ok (c.fact 1 rfl)) (He.meth_ok (c.fact 68 rfl)) (cb_Even_chance KX G c) (by decide)) (mo_or (mo_one (He.cls_ok (c.fact 4 rfl)) (He.meth_ok (c.fact 69 rfl)) (cb_Quick_chance KX G c) (by decide)) (mo_one (He.cls_ok (c.fact 6 rfl)) (He.meth_ok (c.fact 70 rfl)) (cb_Run_chance KX G c) (by decide)))) hr ho)))))
   (fun vs H Q E h => by
    obtain ⟨_, _, _, rfl, h⟩ := h
    haveI : SaysC K := ⟨c⟩
    exact pure_Book_chance K h))
  ) only [↓Bx.eq]
theorem cb_Lslots (KX : K.In h) (G : h.Ns mainGlobals mg) (c : SaysX fa fn xf K) : Cb false P w K mg base 4 (He.fAd K ("_law_slots", none)) ["_law_looks_here", "_law_slots_here", "_law_signs", "_law_node"] [] (sp_Lslots K) := by
  refine Bx.out ?_
  simp (disch := with_unfolding_all
  exact (
  cb_of (T := t_Lslots K) (c.def_ 43 rfl) sc_Lslots (fun vs H Q E h => by
    obtain ⟨_, _, _, _, rfl, _⟩ := h
    rfl) (fun _ _ _ _ _ _ us hl => match us, hl with | [_, _, _, _], _ => rfl)
   (fun cdv A outer s H E hr => by
    have nd := sc_Lslots.nd
    have ho := out_def (cxD_takes (n := false) (P := P) (w := w) (K := K) (mg := mg) (base := base) (N := N_Lslots) (qual := "_law_slots") (st := s_Lslots) (f := He.fAd K ("_law_slots", none)) (cdv := cdv) (A := A) (outer := outer) (s := s) (H := H) (E := E))
    have tk := cxD_takes (n := false) (P := P) (w := w) (K := K) (mg := mg) (base := base) (N := N_Lslots) (qual := "_law_slots") (st := s_Lslots) (f := He.fAd K ("_law_slots", none)) (cdv := cdv) (A := A) (outer := outer) (s := s) (H := H) (E := E)
    have pz := cxD_passes (n := false) (P := P) (w := w) (K := K) (mg := mg) (base := base) (N := N_Lslots) (qual := "_law_slots") (st := s_Lslots) (f := He.fAd K ("_law_slots", none)) (cdv := cdv) (A := A) (outer := outer) (s := s) (H := H) (E := E)
    exact pss_cons (ps_set (i := 4) nd rfl (by first | exact Or.inl rfl | exact Or.inr rfl) (pe_lst (pa_nil)))
       (pss_cons (ps_for pz rfl (pi_range1 (by rfl) (He.free_ok KX G (c.fact 32 rfl)) (pa_cons (pe_callB c_len (by rfl) (He.free_ok KX G (c.fact 25 rfl)) (by decide +kernel) (pa_cons (pv 0) (pa_nil))) (pa_nil))) (pg_name (i := 5) nd rfl (by first | exact Or.inl rfl | exact Or.inr rfl)) (pss_cons (ps_set (i := 6) nd rfl (by first | exact Or.inl rfl | exact Or.inr rfl) (pe_tup (pa_cons (pv 5) (pa_cons (pe_fun (cb_Lcontext KX G c) (hr.mono (by decide)) (He.glo_ok KX G (c.fact 71 rfl)) ho (pa_cons (pe_ix ix_seq (pe_ix ix_seq (pv 0) (pv 5) (fun _ _ => rfl)) (pe_int) (fun _ _ => rfl)) (pa_cons (pv 2) (pa_cons (pv 3) (pa_nil))))) (pa_nil)))))
       (pss_cons (ps_if (pt_cmp (pc_dnotinZ hr.units (pv 6) (pv 1))) (pss_one (ps_dputZ hr.units (pv 1) (pv 6) (pe_fun (cb_slot_of KX G c) (hr.mono (by decide)) (He.glo_ok KX G (c.fact 67 rfl)) ho (pa_cons (pe_ix ix_seq (pe_ix ix_seq (pv 0) (pv 5) (fun _ _ => rfl)) (pe_int) (fun _ _ => rfl)) (pa_nil))) rfl)) (pss_nil))
       (pss_one (ps_expr (pe_bm PySem.F.plainAttrs_list PySem.F.slot_list_append PySem.F.type_list_append mt_append (pv 4) (pa_cons (pe_dgetZ hr.units (pv 1) (pv 6) (fun _ _ => rfl)) (pa_nil))))))))
       (pss_one (ps_ret (pv 4)))))
   (fun vs H Q E h => by
    obtain ⟨_, _, _, _, rfl, h⟩ := h
    haveI : SaysC K := ⟨c⟩
    exact pure_Lslots K h))
  ) only [↓Bx.eq]
theorem cb_Book_seen (KX : K.In h) (G : h.Ns mainGlobals mg) (c : SaysX fa fn xf K) : Cb false P w K mg base 5 (He.fAd K ("Book", some "seen")) ["self", "signs", "node", "bit"] [] (sp_Book_seen K) := by
  refine Bx.out ?_
  simp (disch := with_unfolding_all
  exact (
  cb_of (T := t_Book_seen K) (c.def_ 22 rfl) sc_Book_seen (fun vs H Q E h => by
    obtain ⟨_, _, _, _, rfl, _⟩ := h
    rfl) (fun _ _ _ _ _ _ us hl => match us, hl with | [_, _, _, _], _ => rfl)
   (fun cdv A outer s H E hr => by
    have nd := sc_Book_seen.nd
    have ho := out_def (cxD_takes (n := false) (P := P) (w := w) (K := K) (mg := mg) (base := base) (N := N_Book_seen) (qual := "Book.seen") (st := s_Book_seen) (f := He.fAd K ("Book", some "seen")) (cdv := cdv) (A := A) (outer := outer) (s := s) (H := H) (E := E))
    have tk := cxD_takes (n := false) (P := P) (w := w) (K := K) (mg := mg) (base := base) (N := N_Book_seen) (qual := "Book.seen") (st := s_Book_seen) (f := He.fAd K ("Book", some "seen")) (cdv := cdv) (A := A) (outer := outer) (s := s) (H := H) (E := E)
    have pz := cxD_passes (n := false) (P := P) (w := w) (K := K) (mg := mg) (base := base) (N := N_Book_seen) (qual := "Book.seen") (st := s_Book_seen) (f := He.fAd K ("Book", some "seen")) (cdv := cdv) (A := A) (outer := outer) (s := s) (H := H) (E := E)
    exact pss_cons (ps_expr (pe_fun (cb_checked_bit KX G c) (hr.mono (by decide)) (He.glo_ok KX G (c.fact 57 rfl)) ho (pa_cons (pv 3) (pa_nil))))
       (pss_cons (ps_set (i := 4) nd rfl (by first | exact Or.inl rfl | exact Or.inr rfl) (pe_fun (cb_context_of KX G c) (hr.mono (by decide)) (He.glo_ok KX G (c.fact 66 rfl)) ho (pa_cons (pe_fld (pv 0) rfl) (pa_cons (pv 1) (pa_cons (pv 2) (pa_nil))))))
       (pss_cons (ps_if (pt_cmp (pc_dnotin (hu_of hr) (pv 4) (pe_fld (pv 0) rfl))) (pss_one (ps_dput (hu_of hr) (pe_fld (pv 0) rfl) (pv 4) (pe_fun (cb_slot_of KX G c) (hr.mono (by decide)) (He.glo_ok KX G (c.fact 67 rfl)) ho (pa_cons (pe_ix ix_seq (pe_fld (pv 0) rfl) (pe_int) (fun _ _ => rfl)) (pa_nil))) rfl)) (pss_nil))
       (pss_one (ps_expr (pe_mth (k := 4) (pe_dget (hu_of hr) (pe_fld (pv 0) rfl) (pv 4) (fun _ _ => rfl)) (mo_or (mo_one (He.cls_ok (c.fact 1 rfl)) (He.meth_ok (c.fact 72 rfl)) (cb_Even_seen KX G c) (by decide)) (mo_or (mo_one (He.cls_ok (c.fact 4 rfl)) (He.meth_ok (c.fact 73 rfl)) (cb_Quick_seen KX G c) (by decide)) (mo_one (He.cls_ok (c.fact 6 rfl)) (He.meth_ok (c.fact 74 rfl)) (cb_Run_seen KX G c) (by decide)))) hr ho (pa_cons (pv 3) (pa_nil))))))))
   (fun vs H Q E h => by
    obtain ⟨_, _, _, _, rfl, h⟩ := h
    haveI : SaysC K := ⟨c⟩
    exact pure_Book_seen K h))
  ) only [↓Bx.eq]
theorem cb_Mixer_learn (KX : K.In h) (G : h.Ns mainGlobals mg) (c : SaysX fa fn xf K) : Cb false P w K mg base 5 (He.fAd K ("Mixer", some "learn")) ["self", "chances", "bit"] [] (sp_Mixer_learn K) := by
  refine Bx.out ?_
  simp (disch := with_unfolding_all
  exact (
  cb_of (T := t_Mixer_learn K) (c.def_ 26 rfl) sc_Mixer_learn (fun vs H Q E h => by
    obtain ⟨_, _, _, rfl, _⟩ := h
    rfl) (fun _ _ _ _ _ _ us hl => match us, hl with | [_, _, _], _ => rfl)
   (fun cdv A outer s H E hr => by
    have nd := sc_Mixer_learn.nd
    have ho := out_def (cxD_takes (n := false) (P := P) (w := w) (K := K) (mg := mg) (base := base) (N := N_Mixer_learn) (qual := "Mixer.learn") (st := s_Mixer_learn) (f := He.fAd K ("Mixer", some "learn")) (cdv := cdv) (A := A) (outer := outer) (s := s) (H := H) (E := E))
    have tk := cxD_takes (n := false) (P := P) (w := w) (K := K) (mg := mg) (base := base) (N := N_Mixer_learn) (qual := "Mixer.learn") (st := s_Mixer_learn) (f := He.fAd K ("Mixer", some "learn")) (cdv := cdv) (A := A) (outer := outer) (s := s) (H := H) (E := E)
    have pz := cxD_passes (n := false) (P := P) (w := w) (K := K) (mg := mg) (base := base) (N := N_Mixer_learn) (qual := "Mixer.learn") (st := s_Mixer_learn) (f := He.fAd K ("Mixer", some "learn")) (cdv := cdv) (A := A) (outer := outer) (s := s) (H := H) (E := E)
    exact pss_cons (ps_set (i := 3) nd rfl (by first | exact Or.inl rfl | exact Or.inr rfl) (pe_fun (cb_checked_bit KX G c) (hr.mono (by decide)) (He.glo_ok KX G (c.fact 57 rfl)) ho (pa_cons (pv 2) (pa_nil))))
       (pss_cons (ps_setLc (i := 4) (own := [("weight", 9), ("chance", 10)]) (g := gTup K 2 (gCons (gName 9) (gCons (gName 10) (gNil)))) (tt := tYes) rfl nd rfl rfl (sw_true rfl rfl rfl (by decide +kernel)) (pi_zip (by rfl) (He.free_ok KX G (c.fact 30 rfl)) (pa_cons (pe_fld (pv 0) rfl) (pa_cons (pv 1) (pa_nil)))) (blkOk_by (N := N_Mixer_learn) (sc := defScope s_Mixer_learn) (by decide +kernel)) (fun _ _ _ _ _ => pg_tup rfl (pgs_cons (pg_name (i := 9) nd rfl (by first | exact Or.inl rfl | exact Or.inr rfl)) (pgs_cons (pg_name (i := 10) nd rfl (by first | exact Or.inl rfl | exact Or.inr rfl)) (pgs_nil)))) (fun _ _ _ _ _ => pts_nil) (fun _ _ _ _ _ => pe_op o_times (pv 9) (pe_fun (cb_gives KX G c) (hr.mono (by decide)) (He.glo_ok KX G (c.fact 75 rfl)) out_none (pa_cons (pv 10) (pa_cons (pv 3) (pa_nil))))))
       (pss_cons (ps_set (i := 5) nd rfl (by first | exact Or.inl rfl | exact Or.inr rfl) (pe_callB (c_sum rfl) (by rfl) (He.free_ok KX G (c.fact 31 rfl)) (by decide +kernel) (pa_cons (pv 4) (pa_nil))))
       (pss_cons (ps_set (i := 6) nd rfl (by first | exact Or.inl rfl | exact Or.inr rfl) (pe_callB c_len (by rfl) (He.free_ok KX G (c.fact 25 rfl)) (by decide +kernel) (pa_cons (pv 4) (pa_nil))))
       (pss_cons (ps_setLc (i := 7) (own := [("part", 11)]) (g := gName 11) (tt := tYes) rfl nd rfl rfl (sw_true rfl rfl rfl (by decide +kernel)) (pi_list (pv 4)) (blkOk_by (N := N_Mixer_learn) (sc := defScope s_Mixer_learn) (by decide +kernel)) (fun _ _ _ _ _ => pg_name (i := 11) nd rfl (by first | exact Or.inl rfl | exact Or.inr rfl)) (fun _ _ _ _ _ => pts_nil) (fun _ _ _ _ _ => pe_op o_plus (pe_op o_times (pe_op o_times (pe_gint (He.int_ok KX G (c.fact 76 rfl))) (pv 6)) (pv 11)) (pv 5)))
       (pss_cons (ps_set (i := 8) nd rfl (by first | exact Or.inl rfl | exact Or.inr rfl) (pe_callB (c_max rfl) (by rfl) (He.free_ok KX G (c.fact 59 rfl)) (by decide +kernel) (pa_cons (pe_int) (pa_cons (pe_op o_minus (pe_bits (pe_callB (c_sum rfl) (by rfl) (He.free_ok KX G (c.fact 31 rfl)) (by decide +kernel) (pa_cons (pv 7) (pa_nil)))) (pe_gint (He.int_ok KX G (c.fact 77 rfl)))) (pa_nil)))))
       (pss_one (ps_fld (pv 0) (pe_lc (own := [("one", 12)]) (g := gName 12) (tt := tYes) rfl nd (pi_list (pv 7)) (blkOk_by (N := N_Mixer_learn) (sc := defScope s_Mixer_learn) (by decide +kernel)) (fun _ _ _ _ _ => pg_name (i := 12) nd rfl (by first | exact Or.inl rfl | exact Or.inr rfl)) (fun _ _ _ _ _ => pts_nil) (fun _ _ _ _ _ => pe_op o_rsh (pv 12) (pv 8))) rfl))))))))
   (fun vs H Q E h => by
    obtain ⟨_, _, _, rfl, h⟩ := h
    haveI : SaysC K := ⟨c⟩
    exact pure_Mixer_learn K h))
  ) only [↓Bx.eq]
theorem cb_Foreteller_init (KX : K.In h) (G : h.Ns mainGlobals mg) (c : SaysX fa fn xf K) : Cb false P w K mg base 5 (He.fAd K ("Foreteller", some "__init__")) ["self", "looks"] [] (sp_Foreteller_init K) := by
  refine Bx.out ?_
  simp (disch := with_unfolding_all
  exact (
  cb_of (T := t_Foreteller_init K) (c.def_ 27 rfl) sc_Foreteller_init (fun vs H Q E h => by
    obtain ⟨_, _, rfl, _⟩ := h
    rfl) (fun _ _ _ _ _ _ us hl => match us, hl with | [_, _], _ => rfl)
   (fun cdv A outer s H E hr => by
    have nd := sc_Foreteller_init.nd
    have ho := out_def (cxD_takes (n := false) (P := P) (w := w) (K := K) (mg := mg) (base := base) (N := N_Foreteller_init) (qual := "Foreteller.__init__") (st := s_Foreteller_init) (f := He.fAd K ("Foreteller", some "__init__")) (cdv := cdv) (A := A) (outer := outer) (s := s) (H := H) (E := E))
    have tk := cxD_takes (n := false) (P := P) (w := w) (K := K) (mg := mg) (base := base) (N := N_Foreteller_init) (qual := "Foreteller.__init__") (st := s_Foreteller_init) (f := He.fAd K ("Foreteller", some "__init__")) (cdv := cdv) (A := A) (outer := outer) (s := s) (H := H) (E := E)
    have pz := cxD_passes (n := false) (P := P) (w := w) (K := K) (mg := mg) (base := base) (N := N_Foreteller_init) (qual := "Foreteller.__init__") (st := s_Foreteller_init) (f := He.fAd K ("Foreteller", some "__init__")) (cdv := cdv) (A := A) (outer := outer) (s := s) (H := H) (E := E)
    exact pss_cons (ps_fld (pv 0) (pe_fun (cb_checked_looks KX G c) (hr.mono (by decide)) (He.glo_ok KX G (c.fact 78 rfl)) ho (pa_cons (pv 1) (pa_nil))) rfl)
       (pss_cons (ps_fld (pv 0) (pe_lc (own := [("look", 2)]) (g := gName 2) (tt := tYes) rfl nd (pi_list (pe_fld (pv 0) rfl)) (blkOk_by (N := N_Foreteller_init) (sc := defScope s_Foreteller_init) (by decide +kernel)) (fun _ _ _ _ _ => pg_name (i := 2) nd rfl (by first | exact Or.inl rfl | exact Or.inr rfl)) (fun _ _ _ _ _ => pts_nil) (fun _ _ _ _ _ => pe_new (He.mkr_ok (c.fact 81 rfl)) (cb_Book_init KX G c) (hr.mono (by decide)) (He.glo_ok KX G (c.fact 79 rfl)) out_none (pa_cons (pv 2) (pa_nil)))) rfl)
       (pss_cons (ps_fld (pv 0) (pe_new (He.mkr_ok (c.fact 82 rfl)) (cb_Mixer_init KX G c) (hr.mono (by decide)) (He.glo_ok KX G (c.fact 80 rfl)) ho (pa_cons (pe_callB c_len (by rfl) (He.free_ok KX G (c.fact 25 rfl)) (by decide +kernel) (pa_cons (pe_fld (pv 0) rfl) (pa_nil))) (pa_nil))) rfl)
       (pss_cons (ps_fld (pv 0) (pe_lst (pa_nil)) rfl)
       (pss_cons (ps_fld (pv 0) (pe_int) rfl)
       (pss_one (ps_fld (pv 0) (pe_lst (pa_nil)) rfl)))))))
   (fun vs H Q E h => by
    obtain ⟨_, _, rfl, h⟩ := h
    haveI : SaysC K := ⟨c⟩
    exact pure_Foreteller_init K h))
  ) only [↓Bx.eq]
theorem cb_Foreteller_chances (KX : K.In h) (G : h.Ns mainGlobals mg) (c : SaysX fa fn xf K) : Cb false P w K mg base 5 (He.fAd K ("Foreteller", some "chances")) ["self"] [] (sp_Foreteller_chances K) := by
  refine Bx.out ?_
  simp (disch := with_unfolding_all
  exact (
  cb_of (T := t_Foreteller_chances K) (c.def_ 28 rfl) sc_Foreteller_chances (fun vs H Q E h => by
    obtain ⟨_, rfl, _⟩ := h
    rfl) (fun _ _ _ _ _ _ us hl => match us, hl with | [_], _ => rfl)
   (fun cdv A outer s H E hr => by
    have nd := sc_Foreteller_chances.nd
    have ho := out_def (cxD_takes (n := false) (P := P) (w := w) (K := K) (mg := mg) (base := base) (N := N_Foreteller_chances) (qual := "Foreteller.chances") (st := s_Foreteller_chances) (f := He.fAd K ("Foreteller", some "chances")) (cdv := cdv) (A := A) (outer := outer) (s := s) (H := H) (E := E))
    have tk := cxD_takes (n := false) (P := P) (w := w) (K := K) (mg := mg) (base := base) (N := N_Foreteller_chances) (qual := "Foreteller.chances") (st := s_Foreteller_chances) (f := He.fAd K ("Foreteller", some "chances")) (cdv := cdv) (A := A) (outer := outer) (s := s) (H := H) (E := E)
    have pz := cxD_passes (n := false) (P := P) (w := w) (K := K) (mg := mg) (base := base) (N := N_Foreteller_chances) (qual := "Foreteller.chances") (st := s_Foreteller_chances) (f := He.fAd K ("Foreteller", some "chances")) (cdv := cdv) (A := A) (outer := outer) (s := s) (H := H) (E := E)
    exact pss_one (ps_ret (pe_lc (own := [("book", 1)]) (g := gName 1) (tt := tYes) rfl nd (pi_list (pe_fld (pv 0) rfl)) (blkOk_by (N := N_Foreteller_chances) (sc := defScope s_Foreteller_chances) (by decide +kernel)) (fun _ _ _ _ _ => pg_name (i := 1) nd rfl (by first | exact Or.inl rfl | exact Or.inr rfl)) (fun _ _ _ _ _ => pts_nil) (fun _ _ _ _ _ => pe_mth (k := 4) (pv 1) (mo_one (He.cls_ok (c.fact 9 rfl)) (He.meth_ok (c.fact 83 rfl)) (cb_Book_chance KX G c) (by decide)) hr out_none (pa_cons (pe_fld (pv 0) rfl) (pa_cons (pe_fld (pv 0) rfl) (pa_nil)))))))
   (fun vs H Q E h => by
    obtain ⟨_, rfl, h⟩ := h
    haveI : SaysC K := ⟨c⟩
    exact pure_Foreteller_chances K h))
  ) only [↓Bx.eq]
theorem cb_Foreteller_chance (KX : K.In h) (G : h.Ns mainGlobals mg) (c : SaysX fa fn xf K) : Cb false P w K mg base 6 (He.fAd K ("Foreteller", some "chance")) ["self"] [] (sp_Foreteller_chance K) := by
  refine Bx.out ?_
  simp (disch := with_unfolding_all
  exact (
  cb_of (T := t_Foreteller_chance K) (c.def_ 29 rfl) sc_Foreteller_chance (fun vs H Q E h => by
    obtain ⟨_, rfl, _⟩ := h
    rfl) (fun _ _ _ _ _ _ us hl => match us, hl with | [_], _ => rfl)
   (fun cdv A outer s H E hr => by
    have nd := sc_Foreteller_chance.nd
    have ho := out_def (cxD_takes (n := false) (P := P) (w := w) (K := K) (mg := mg) (base := base) (N := N_Foreteller_chance) (qual := "Foreteller.chance") (st := s_Foreteller_chance) (f := He.fAd K ("Foreteller", some "chance")) (cdv := cdv) (A := A) (outer := outer) (s := s) (H := H) (E := E))
    have tk := cxD_takes (n := false) (P := P) (w := w) (K := K) (mg := mg) (base := base) (N := N_Foreteller_chance) (qual := "Foreteller.chance") (st := s_Foreteller_chance) (f := He.fAd K ("Foreteller", some "chance")) (cdv := cdv) (A := A) (outer := outer) (s := s) (H := H) (E := E)
    have pz := cxD_passes (n := false) (P := P) (w := w) (K := K) (mg := mg) (base := base) (N := N_Foreteller_chance) (qual := "Foreteller.chance") (st := s_Foreteller_chance) (f := He.fAd K ("Foreteller", some "chance")) (cdv := cdv) (A := A) (outer := outer) (s := s) (H := H) (E := E)
    exact pss_one (ps_ret (pe_mth (k := 5) (pe_fld (pv 0) rfl) (mo_one (He.cls_ok (c.fact 12 rfl)) (He.meth_ok (c.fact 84 rfl)) (cb_Mixer_mixed KX G c) (by decide)) hr ho (pa_cons (pe_mth0 (k := 5) (pv 0) (mo_one (He.cls_ok (c.fact 14 rfl)) (He.meth_ok (c.fact 85 rfl)) (cb_Foreteller_chances KX G c) (by decide)) hr ho) (pa_nil)))))
   (fun vs H Q E h => by
    obtain ⟨_, rfl, h⟩ := h
    haveI : SaysC K := ⟨c⟩
    exact pure_Foreteller_chance K h))
  ) only [↓Bx.eq]
theorem cb_Foreteller_see (KX : K.In h) (G : h.Ns mainGlobals mg) (c : SaysX fa fn xf K) : Cb false P w K mg base 6 (He.fAd K ("Foreteller", some "see")) ["self", "bit"] [] (sp_Foreteller_see K) := by
  refine Bx.out ?_
  simp (disch := with_unfolding_all
  exact (
  cb_of (T := t_Foreteller_see K) (c.def_ 33 rfl) sc_Foreteller_see (fun vs H Q E h => by
    obtain ⟨_, _, rfl, _⟩ := h
    rfl) (fun _ _ _ _ _ _ us hl => match us, hl with | [_, _], _ => rfl)
   (fun cdv A outer s H E hr => by
    have nd := sc_Foreteller_see.nd
    have ho := out_def (cxD_takes (n := false) (P := P) (w := w) (K := K) (mg := mg) (base := base) (N := N_Foreteller_see) (qual := "Foreteller.see") (st := s_Foreteller_see) (f := He.fAd K ("Foreteller", some "see")) (cdv := cdv) (A := A) (outer := outer) (s := s) (H := H) (E := E))
    have tk := cxD_takes (n := false) (P := P) (w := w) (K := K) (mg := mg) (base := base) (N := N_Foreteller_see) (qual := "Foreteller.see") (st := s_Foreteller_see) (f := He.fAd K ("Foreteller", some "see")) (cdv := cdv) (A := A) (outer := outer) (s := s) (H := H) (E := E)
    have pz := cxD_passes (n := false) (P := P) (w := w) (K := K) (mg := mg) (base := base) (N := N_Foreteller_see) (qual := "Foreteller.see") (st := s_Foreteller_see) (f := He.fAd K ("Foreteller", some "see")) (cdv := cdv) (A := A) (outer := outer) (s := s) (H := H) (E := E)
    exact pss_cons (ps_set (i := 2) nd rfl (by first | exact Or.inl rfl | exact Or.inr rfl) (pe_fun (cb_checked_bit KX G c) (hr.mono (by decide)) (He.glo_ok KX G (c.fact 57 rfl)) ho (pa_cons (pv 1) (pa_nil))))
       (pss_cons (ps_set (i := 3) nd rfl (by first | exact Or.inl rfl | exact Or.inr rfl) (pe_mth0 (k := 5) (pv 0) (mo_one (He.cls_ok (c.fact 14 rfl)) (He.meth_ok (c.fact 85 rfl)) (cb_Foreteller_chances KX G c) (by decide)) hr ho))
       (pss_cons (ps_for pz rfl (pi_list (pe_fld (pv 0) rfl)) (pg_name (i := 4) nd rfl (by first | exact Or.inl rfl | exact Or.inr rfl)) (pss_one (ps_expr (pe_mth (k := 5) (pv 4) (mo_one (He.cls_ok (c.fact 9 rfl)) (He.meth_ok (c.fact 86 rfl)) (cb_Book_seen KX G c) (by decide)) hr ho (pa_cons (pe_fld (pv 0) rfl) (pa_cons (pe_fld (pv 0) rfl) (pa_cons (pv 2) (pa_nil))))))))
       (pss_cons (ps_expr (pe_mth (k := 5) (pe_fld (pv 0) rfl) (mo_one (He.cls_ok (c.fact 12 rfl)) (He.meth_ok (c.fact 87 rfl)) (cb_Mixer_learn KX G c) (by decide)) hr ho (pa_cons (pv 3) (pa_cons (pv 2) (pa_nil)))))
       (pss_cons (ps_expr (pe_bm PySem.F.plainAttrs_list PySem.F.slot_list_append PySem.F.type_list_append mt_append (pe_fld (pv 0) rfl) (pa_cons (pv 2) (pa_nil))))
       (pss_one (ps_expr (pe_mth (k := 5) (pv 0) (mo_one (He.cls_ok (c.fact 14 rfl)) (He.meth_ok (c.fact 88 rfl)) (cb_Foreteller_go KX G c) (by decide)) hr ho (pa_cons (pv 2) (pa_nil))))))))))
   (fun vs H Q E h => by
    obtain ⟨_, _, rfl, h⟩ := h
    haveI : SaysC K := ⟨c⟩
    exact pure_Foreteller_see K h))
  ) only [↓Bx.eq]
theorem cb_Lseen (KX : K.In h) (G : h.Ns mainGlobals mg) (c : SaysX fa fn xf K) : Cb false P w K mg base 7 (He.fAd K ("_law_seen", none)) ["_law_foreteller", "_law_looks_here", "_law_slots_here", "_law_weights", "_law_text_here"] [] (sp_Lseen K) := by
  refine Bx.out ?_
  simp (disch := with_unfolding_all
  exact (
  cb_of (T := t_Lseen K) (c.def_ 45 rfl) sc_Lseen (fun vs H Q E h => by
    obtain ⟨_, _, _, _, _, rfl, _⟩ := h
    rfl) (fun _ _ _ _ _ _ us hl => match us, hl with | [_, _, _, _, _], _ => rfl)
   (fun cdv A outer s H E hr => by
    have nd := sc_Lseen.nd
    have ho := out_def (cxD_takes (n := false) (P := P) (w := w) (K := K) (mg := mg) (base := base) (N := N_Lseen) (qual := "_law_seen") (st := s_Lseen) (f := He.fAd K ("_law_seen", none)) (cdv := cdv) (A := A) (outer := outer) (s := s) (H := H) (E := E))
    have tk := cxD_takes (n := false) (P := P) (w := w) (K := K) (mg := mg) (base := base) (N := N_Lseen) (qual := "_law_seen") (st := s_Lseen) (f := He.fAd K ("_law_seen", none)) (cdv := cdv) (A := A) (outer := outer) (s := s) (H := H) (E := E)
    have pz := cxD_passes (n := false) (P := P) (w := w) (K := K) (mg := mg) (base := base) (N := N_Lseen) (qual := "_law_seen") (st := s_Lseen) (f := He.fAd K ("_law_seen", none)) (cdv := cdv) (A := A) (outer := outer) (s := s) (H := H) (E := E)
    exact pss_cons (ps_set (i := 5) nd rfl (by first | exact Or.inl rfl | exact Or.inr rfl) (pe_int))
       (pss_cons (ps_set (i := 6) nd rfl (by first | exact Or.inl rfl | exact Or.inr rfl) (pe_lst (pa_nil)))
       (pss_cons (ps_for pz rfl (pi_list (pe_fun (cb_Lbits KX G c) (hr.mono (by decide)) (He.glo_ok KX G (c.fact 89 rfl)) ho (pa_cons (pv 4) (pa_nil)))) (pg_name (i := 7) nd rfl (by first | exact Or.inl rfl | exact Or.inr rfl)) (pss_cons (ps_set (i := 8) nd rfl (by first | exact Or.inl rfl | exact Or.inr rfl) (pe_fun (cb_Lslots KX G c) (hr.mono (by decide)) (He.glo_ok KX G (c.fact 90 rfl)) ho (pa_cons (pv 1) (pa_cons (pv 2) (pa_cons (pv 6) (pa_cons (pv 5) (pa_nil)))))))
       (pss_cons (ps_setLc (i := 9) (own := [("_law_slot", 11)]) (g := gName 11) (tt := tYes) rfl nd rfl rfl (sw_true rfl rfl rfl (by decide +kernel)) (pi_list (pv 8)) (blkOk_by (N := N_Lseen) (sc := defScope s_Lseen) (by decide +kernel)) (fun _ _ _ _ _ => pg_name (i := 11) nd rfl (by first | exact Or.inl rfl | exact Or.inr rfl)) (fun _ _ _ _ _ => pts_nil) (fun _ _ _ _ _ => pe_mth0 (k := 6) (pv 11) (mo_or (mo_one (He.cls_ok (c.fact 1 rfl)) (He.meth_ok (c.fact 68 rfl)) (cb_Even_chance KX G c) (by decide)) (mo_or (mo_one (He.cls_ok (c.fact 4 rfl)) (He.meth_ok (c.fact 69 rfl)) (cb_Quick_chance KX G c) (by decide)) (mo_one (He.cls_ok (c.fact 6 rfl)) (He.meth_ok (c.fact 70 rfl)) (cb_Run_chance KX G c) (by decide)))) hr out_none))
       (pss_cons (ps_if (PW.pt (pw_or (pt_cmpR (o_diff hr.units) (pe_mth0 (k := 6) (pv 0) (mo_one (He.cls_ok (c.fact 14 rfl)) (He.meth_ok (c.fact 85 rfl)) (cb_Foreteller_chances KX G c) (by decide)) hr ho) (pv 9) (nomark _)) (pw_or1 (pt_cmpR (o_diff hr.units) (pe_mth0 (k := 6) (pv 0) (mo_one (He.cls_ok (c.fact 14 rfl)) (He.meth_ok (c.fact 93 rfl)) (cb_Foreteller_chance KX G c) (by decide)) hr ho) (pe_fun (cb_Lmixed KX G c) (hr.mono (by decide)) (He.glo_ok KX G (c.fact 91 rfl)) ho (pa_cons (pv 3) (pa_cons (pv 9) (pa_nil)))) (nomark _))))) (pss_one (ps_ret (pe_non))) (pss_nil))
       (pss_cons (ps_if (pt_cmpR (o_same hr.units) (pv 5) (pe_int) (nomark _)) (pss_cons (ps_set (i := 10) nd rfl (by first | exact Or.inl rfl | exact Or.inr rfl) (pe_mth0 (k := 6) (pv 0) (mo_one (He.cls_ok (c.fact 14 rfl)) (He.meth_ok (c.fact 94 rfl)) (cb_Foreteller_signs KX G c) (by decide)) hr ho))
       (pss_cons (ps_if (PW.pt (pw_or (pt_not (pt_tru (pe_callB c_isi (by rfl) (He.free_ok KX G (c.fact 21 rfl)) (by decide +kernel) (pa_cons (pv 10) (pa_cons (pe_gty (He.free_ok KX G (c.fact 29 rfl)) (by decide +kernel)) (pa_nil)))))) (pw_or1 (pt_cmpR (o_diff hr.units) (pv 10) (pv 6) (nomark _))))) (pss_one (ps_ret (pe_non))) (pss_nil))
       (pss_one (ps_expr (pe_bm PySem.F.plainAttrs_list PySem.F.slot_list_append PySem.F.type_list_append mt_append (pv 10) (pa_cons (pe_int) (pa_nil))))))) (pss_nil))
       (pss_cons (ps_expr (pe_mth (k := 6) (pv 0) (mo_one (He.cls_ok (c.fact 14 rfl)) (He.meth_ok (c.fact 95 rfl)) (cb_Foreteller_see KX G c) (by decide)) hr ho (pa_cons (pv 7) (pa_nil))))
       (pss_cons (ps_for pz rfl (pi_list (pv 8)) (pg_name (i := 11) nd rfl (by first | exact Or.inl rfl | exact Or.inr rfl)) (pss_one (ps_expr (pe_mth (k := 6) (pv 11) (mo_or (mo_one (He.cls_ok (c.fact 1 rfl)) (He.meth_ok (c.fact 72 rfl)) (cb_Even_seen KX G c) (by decide)) (mo_or (mo_one (He.cls_ok (c.fact 4 rfl)) (He.meth_ok (c.fact 73 rfl)) (cb_Quick_seen KX G c) (by decide)) (mo_one (He.cls_ok (c.fact 6 rfl)) (He.meth_ok (c.fact 74 rfl)) (cb_Run_seen KX G c) (by decide)))) hr ho (pa_cons (pv 7) (pa_nil))))))
       (pss_cons (ps_set (i := 3) nd rfl (by first | exact Or.inl rfl | exact Or.inr rfl) (pe_fun (cb_Llearnt KX G c) (hr.mono (by decide)) (He.glo_ok KX G (c.fact 92 rfl)) ho (pa_cons (pv 3) (pa_cons (pv 9) (pa_cons (pv 7) (pa_nil))))))
       (pss_one (ps_if (pt_cmpR o_gt (pv 5) (pe_int) (nomark _)) (pss_cons (ps_set (i := 6) nd rfl (by first | exact Or.inl rfl | exact Or.inr rfl) (pe_op o_plus (pv 6) (pe_lst (pa_cons (pe_op o_minus (pe_op o_plus (pe_op o_times (pe_int) (pv 5)) (pv 7)) (pe_int)) (pa_nil)))))
       (pss_one (ps_set (i := 5) nd rfl (by first | exact Or.inl rfl | exact Or.inr rfl) (pe_int)))) (pss_one (ps_if (pt_cmpR o_gt (pv 5) (pe_int) (nomark _)) (pss_one (ps_set (i := 5) nd rfl (by first | exact Or.inl rfl | exact Or.inr rfl) (pe_op o_plus (pe_op o_times (pe_int) (pv 5)) (pv 7)))) (pss_one (ps_set (i := 5) nd rfl (by first | exact Or.inl rfl | exact Or.inr rfl) (pv 7)))))))))))))))
       (pss_cons (ps_if (PW.pt (pw_or (pt_cmpR (o_diff hr.units) (pv 6) (pv 4) (nomark _)) (pw_or1 (pt_cmpR (o_diff hr.units) (pe_mth0 (k := 6) (pv 0) (mo_one (He.cls_ok (c.fact 14 rfl)) (He.meth_ok (c.fact 96 rfl)) (cb_Foreteller_weights KX G c) (by decide)) hr ho) (pv 3) (nomark _))))) (pss_one (ps_ret (pe_non))) (pss_nil))
       (pss_one (ps_ret (pv 3)))))))
   (fun vs H Q E h => by
    obtain ⟨_, _, _, _, _, rfl, h⟩ := h
    haveI : SaysC K := ⟨c⟩
    exact pure_Lseen K h))
  ) only [↓Bx.eq]
theorem ok_law (KX : K.In h) (G : h.Ns mainGlobals mg) (c : SaysX fa fn xf K) {fd : FuncData} (F : FunD K "law" "law" (defArgs s_law) (defBody s_law) (defScope s_law) [] [] (He.fAd K ("law", none)) fd) : FnOk P w K mg base (L2.CX P w) 8 (He.fAd K ("law", none)) fd ["_law_script"] (sp_law K) :=
  ok_of (n := false) (T := t_law K) F sc_law (fun vs H Q E h => by
    obtain ⟨_, rfl, _⟩ := h
    rfl)
   (fun cdv A outer s H E hr => by
    have nd := sc_law.nd
    have ho := out_def (cxD_takes (n := false) (P := P) (w := w) (K := K) (mg := mg) (base := base) (N := N_law) (qual := "law") (st := s_law) (f := He.fAd K ("law", none)) (cdv := cdv) (A := A) (outer := outer) (s := s) (H := H) (E := E))
    have tk := cxD_takes (n := false) (P := P) (w := w) (K := K) (mg := mg) (base := base) (N := N_law) (qual := "law") (st := s_law) (f := He.fAd K ("law", none)) (cdv := cdv) (A := A) (outer := outer) (s := s) (H := H) (E := E)
    have pz := cxD_passes (n := false) (P := P) (w := w) (K := K) (mg := mg) (base := base) (N := N_law) (qual := "law") (st := s_law) (f := He.fAd K ("law", none)) (cdv := cdv) (A := A) (outer := outer) (s := s) (H := H) (E := E)
    exact pss_cons (ps_set (i := 1) nd rfl (by first | exact Or.inl rfl | exact Or.inr rfl) (pe_fun (cb_Llooks KX G c) (hr.mono (by decide)) (He.glo_ok KX G (c.fact 97 rfl)) ho (pa_cons (pv 0) (pa_nil))))
       (pss_cons (ps_set (i := 2) nd rfl (by first | exact Or.inl rfl | exact Or.inr rfl) (pe_op o_floor (pe_fun (cb_Lcell_at KX G c) (hr.mono (by decide)) (He.glo_ok KX G (c.fact 38 rfl)) ho (pa_cons (pv 0) (pa_cons (pe_int) (pa_nil)))) (pe_int)))
       (pss_cons (ps_set (i := 3) nd rfl (by first | exact Or.inl rfl | exact Or.inr rfl) (pe_int))
       (pss_cons (ps_if (pt_cmpR (o_same hr.units) (pe_op o_rest (pv 2) (pe_int)) (pe_int) (nomark _)) (pss_cons (ps_set (i := 4) nd rfl (by first | exact Or.inl rfl | exact Or.inr rfl) (pe_tup (pa_cons (pe_ix ix_seq (pe_ix ix_seq (pv 1) (pe_int) (fun _ _ => rfl)) (pe_int) (fun _ _ => rfl)) (pa_cons (pe_ix ix_seq (pe_lst (pa_cons (pe_tup (pa_cons (pe_int) (pa_nil))) (pa_cons (pe_tup (pa_cons (pe_int) (pa_nil))) (pa_cons (pe_tup (pa_cons (pe_int) (pa_cons (pe_int) (pa_nil)))) (pa_cons (pe_tup (pa_cons (pe_int) (pa_nil))) (pa_cons (pe_tup (pa_cons (pe_int) (pa_cons (pe_int) (pa_cons (pe_int) (pa_nil))))) (pa_cons (pe_tup (pa_cons (pe_int) (pa_cons (pe_int) (pa_cons (pe_int) (pa_cons (pe_int) (pa_nil)))))) (pa_nil)))))))) (pe_op o_rest (pe_op o_floor (pv 2) (pe_int)) (pe_int)) (fun _ _ => rfl)) (pa_nil)))))
       (pss_cons (ps_set (i := 1) nd rfl (by first | exact Or.inl rfl | exact Or.inr rfl) (pe_slice sl_list (pe_lst (pa_cons (pv 4) (pa_cons (pe_ix ix_seq (pv 1) (pe_int) (fun _ _ => rfl)) (pa_nil)))) (po_none) (po_some (pe_op o_plus (pe_int) (pe_op o_rest (pe_op o_floor (pv 2) (pe_int)) (pe_int))))))
       (pss_one (ps_set (i := 3) nd rfl (by first | exact Or.inl rfl | exact Or.inr rfl) (pe_ix ix_seq (pe_lst (pa_cons (pe_int) (pa_cons (pe_int) (pa_nil)))) (pe_op o_rest (pe_op o_floor (pv 2) (pe_int)) (pe_int)) (fun _ _ => rfl)))))) (pss_nil))
       (pss_cons (ps_if (pt_cmpR (o_same hr.units) (pe_op o_rest (pv 2) (pe_int)) (pe_int) (nomark _)) (pss_one (ps_set (i := 1) nd rfl (by first | exact Or.inl rfl | exact Or.inr rfl) (pe_slice sl_list (pv 1) (po_none) (po_some (pe_int))))) (pss_nil))
       (pss_cons (ps_set (i := 5) nd rfl (by first | exact Or.inl rfl | exact Or.inr rfl) (pe_callB (c_min rfl) (by rfl) (He.free_ok KX G (c.fact 60 rfl)) (by decide +kernel) (pa_cons (pv 3) (pa_cons (pe_callB (c_max rfl) (by rfl) (He.free_ok KX G (c.fact 59 rfl)) (by decide +kernel) (pa_cons (pe_int) (pa_cons (pe_op o_minus (pe_callB c_len (by rfl) (He.free_ok KX G (c.fact 25 rfl)) (by decide +kernel) (pa_cons (pv 0) (pa_nil))) (pe_int)) (pa_nil)))) (pa_nil)))))
       (pss_cons (ps_set (i := 6) nd rfl (by first | exact Or.inl rfl | exact Or.inr rfl) (pe_op o_rest (pe_op o_floor (pe_fun (cb_Lcell_at KX G c) (hr.mono (by decide)) (He.glo_ok KX G (c.fact 38 rfl)) ho (pa_cons (pv 0) (pa_cons (pe_int) (pa_nil)))) (pe_int)) (pe_op o_plus (pv 5) (pe_int))))
       (pss_cons (ps_if (PW.pt (pw_and (pt_cmpR (o_same hr.units) (pe_op o_rest (pv 2) (pe_int)) (pe_int) (nomark _)) (pw_and1 (pt_cmpR (o_same hr.units) (pe_op o_rest (pe_op o_floor (pv 2) (pe_int)) (pe_int)) (pe_int) (nomark _))))) (pss_one (ps_set (i := 6) nd rfl (by first | exact Or.inl rfl | exact Or.inr rfl) (pe_int))) (pss_nil))
       (pss_cons (ps_set (i := 7) nd rfl (by first | exact Or.inl rfl | exact Or.inr rfl) (pe_op o_plus (pv 6) (pe_op o_rest (pe_op o_floor (pe_fun (cb_Lcell_at KX G c) (hr.mono (by decide)) (He.glo_ok KX G (c.fact 38 rfl)) ho (pa_cons (pv 0) (pa_cons (pe_int) (pa_nil)))) (pe_int)) (pe_op o_plus (pe_op o_minus (pv 5) (pv 6)) (pe_int)))))
       (pss_cons (ps_if (PW.pt (pw_and (pt_cmpR (o_same hr.units) (pe_op o_rest (pv 2) (pe_int)) (pe_int) (nomark _)) (pw_and1 (pt_cmpR (o_same hr.units) (pe_op o_rest (pe_op o_floor (pv 2) (pe_int)) (pe_int)) (pe_int) (nomark _))))) (pss_one (ps_set (i := 7) nd rfl (by first | exact Or.inl rfl | exact Or.inr rfl) (pe_int))) (pss_nil))
       (pss_cons (ps_set (i := 8) nd rfl (by first | exact Or.inl rfl | exact Or.inr rfl) (pe_fun (cb_Ltext KX G c) (hr.mono (by decide)) (He.glo_ok KX G (c.fact 98 rfl)) ho (pa_cons (pv 0) (pa_cons (pe_int) (pa_cons (pv 5) (pa_nil))))))
       (pss_cons (ps_if (pt_cmpR (o_same hr.units) (pe_op o_rest (pv 2) (pe_int)) (pe_int) (nomark _)) (pss_cons (ps_par3 (i := 1) (j := 6) (l := 7) rfl nd rfl rfl rfl (by decide) (by decide) (by decide) rfl rfl rfl (pa_cons (pe_slice sl_list (pv 1) (po_none) (po_some (pe_int))) (pa_cons (pe_int) (pa_cons (pe_int) (pa_nil)))) rfl)
       (pss_one (ps_set (i := 8) nd rfl (by first | exact Or.inl rfl | exact Or.inr rfl) (pe_slice sl_list (pe_op o_times (pe_fun (cb_Ltext KX G c) (hr.mono (by decide)) (He.glo_ok KX G (c.fact 98 rfl)) ho (pa_cons (pv 0) (pa_cons (pe_int) (pa_cons (pe_int) (pa_nil))))) (pe_int)) (po_none) (po_some (pe_op o_plus (pe_int) (pe_op o_rest (pe_op o_floor (pv 2) (pe_int)) (pe_int)))))))) (pss_nil))
       (pss_cons (ps_set (i := 9) nd rfl (by first | exact Or.inl rfl | exact Or.inr rfl) (pe_new (He.mkr_ok (c.fact 102 rfl)) (cb_Foreteller_init KX G c) (hr.mono (by decide)) (He.glo_ok KX G (c.fact 99 rfl)) ho (pa_cons (pe_callTy c_list (by rfl) (He.free_ok KX G (c.fact 29 rfl)) (by decide +kernel) (pa_cons (pv 1) (pa_nil))) (pa_nil))))
       (pss_cons (ps_set (i := 10) nd rfl (by first | exact Or.inl rfl | exact Or.inr rfl) (pe_dnewN))
       (pss_cons (ps_set (i := 11) nd rfl (by first | exact Or.inl rfl | exact Or.inr rfl) (pe_op o_times (pe_lst (pa_cons (pe_op o_lsh (pe_int) (pe_int)) (pa_nil))) (pe_callB c_len (by rfl) (He.free_ok KX G (c.fact 25 rfl)) (by decide +kernel) (pa_cons (pv 1) (pa_nil)))))
       (pss_cons (ps_set (i := 12) nd rfl (by first | exact Or.inl rfl | exact Or.inr rfl) (pe_lst (pa_cons (pe_slice sl_list (pv 8) (po_none) (po_some (pv 6))) (pa_cons (pe_slice sl_list (pv 8) (po_some (pv 6)) (po_some (pv 7))) (pa_cons (pe_slice sl_list (pv 8) (po_some (pv 7)) (po_none)) (pa_nil))))))
       (pss_cons (ps_if (pt_cmpR (o_same hr.units) (pe_op o_rest (pv 2) (pe_int)) (pe_int) (nomark _)) (pss_one (ps_set (i := 12) nd rfl (by first | exact Or.inl rfl | exact Or.inr rfl) (pe_op o_plus (pv 12) (pe_op o_times (pe_lst (pa_cons (pe_lst (pa_nil)) (pa_nil))) (pe_int))))) (pss_nil))
       (pss_cons (ps_for pz rfl (pi_list (pv 12)) (pg_name (i := 13) nd rfl (by first | exact Or.inl rfl | exact Or.inr rfl)) (pss_cons (ps_set (i := 11) nd rfl (by first | exact Or.inl rfl | exact Or.inr rfl) (pe_fun (cb_Lseen KX G c) (hr.mono (by decide)) (He.glo_ok KX G (c.fact 100 rfl)) ho (pa_cons (pv 9) (pa_cons (pv 1) (pa_cons (pv 10) (pa_cons (pv 11) (pa_cons (pv 13) (pa_nil))))))))
       (pss_one (ps_if (pt_cmpR o_isno (pv 11) (pe_non) (nomark _)) (pss_one (ps_ret (pe_bl))) (pss_nil)))))
       (pss_one (ps_ret (pe_and (pe_cmpR (o_same hr.units) (pe_mth0 (k := 7) (pv 9) (mo_one (He.cls_ok (c.fact 14 rfl)) (He.meth_ok (c.fact 101 rfl)) (cb_Foreteller_node KX G c) (by decide)) hr ho) (pe_int) (nomark _)) (pe_one (pe_cmpR (o_same hr.units) (pe_mth0 (k := 7) (pv 9) (mo_one (He.cls_ok (c.fact 14 rfl)) (He.meth_ok (c.fact 94 rfl)) (cb_Foreteller_signs KX G c) (by decide)) hr ho) (pe_lst (pa_nil)) (nomark _))))))))))))))))))))))))
   (fun vs H Q E h => by
    obtain ⟨_, rfl, h⟩ := h
    haveI : SaysC K := ⟨c⟩
    exact pure_law K h)
end
theorem facts {P : Program} {w : World} {K : PySem.W.Frag} {h : Heap} {mg : Str → Option Value} {f : Addr} (X : K.In h) (G : h.Ns mainGlobals mg) (hfa : mg ("law" : Str) = some (.ref f)) (c : SaysX fa fn xf K) :
    ∃ fd : FuncData, (∀ (s : Shared) (v : Value), BindsTo s fd ⟨[v], []⟩ [("_law_script", v)]) ∧ ∀ base : Heap, K.In base → base.Ns mainGlobals mg → FnOk P w K mg base (L2.CX P w) 8 f fd ["_law_script"] (sp_law K) := by
  obtain ⟨fd, F⟩ := c.def_ 46 rfl
  have e := hfa.symm.trans (He.glo_ok X G (c.fact 103 rfl))
  cases e
  have b := FunD.bindsA (ps := ["_law_script"]) F fun _ _ _ _ _ _ us hl => match us, hl with | [_], _ => rfl
  exact ⟨fd, fun s v => b s [v] rfl, fun base _ _ => ok_law (P := P) (w := w) (base := base) X G c F⟩
theorem cx_end {P : Program} {w : World} (H : Hp) (s : Shared) (e : Value) (s' : Shared) (z : L2.CX P w [] H s (fun _ _ _ => False) e s') : False := by
  obtain ⟨_, _, _, _, _, _, _, _, _, _, _, _, z⟩ := z
  exact z
end Fo
open PySem PySem.W PySem.Calls PyProof.Rows
theorem PySem.Challenge.cw_foretell_k25_texts_behind_one_another_holds : PySem.Challenge.rw_foretell_k25_texts_behind_one_another.Holds := by
  refine Fo.early fun said => ?_
  refine HandSHeadRun.head_any (r := Fo.W_.row) (q := view Fo.W_.row.prog [52]) (H := Fo.hk) (ob := Fo.ob) (M := 9480) (loose := Fo.loose) (d := HandSHeadRun.topDef Fo.W_.row.prog 52) (kwd := []) Fo.ob_eq
    (by kernel_rfl) (fun s => by kernel_rfl) Fo.run (by kernel_rfl) (by kernel_rfl) (by kernel_rfl) (by rfl) (by first | assumption | decide +kernel) (by decide +kernel) ⟨rfl, rfl, rfl, rfl, rfl, by decide +kernel⟩ ?hw ?hc
  case hw => w_witness2
  case hc =>
    refine L2.walk_ofE (l := Fo.W_) (n := 63) (k := 8) (x := "_law_script") (CX := fun o H s E u s' => ∃ (P : Program) (w : World), L2.CX P w o H s E u s') rfl (by decide) (by kernel_rfl) ⟨rfl, by decide, by decide⟩ ?F (fun H s e s' z => by obtain ⟨P, w, z⟩ := z; exact Fo.cx_end H s e s' z)
    intro w mg fa h Y G hmg0
    obtain ⟨K, KX, c⟩ := Y
    have hmg : mg ("law" : PySem.Str) = some (.ref fa) := by
      have e : (HandSHeadRun.topDef Fo.W_.row.prog 52).name = ("law" : PySem.Str) := by kernel_rfl
      rw [← e]
      exact hmg0
    obtain ⟨fd, hb, hF⟩ := Fo.facts (P := Fo.W_.prog) (w := w) KX G hmg c
    exact ⟨K, fd, Fo.sp_law K, KX, hb, fun H a ns hl _ hS => Fo.law_here K H a ns hl hS, fun base hB hG => Fo.cx_any (hF base hB hG)⟩


