import PyProof.Rows.All
import Wide.All
import OpenK.AllK
import Wide.FinOn
import HandS.ForMost
import HandS.Defaults
import HandS.HeadHook4
import HandS.Wide
import HandS.Style
import HandS.Steps
import HandS.MakeKwOnly
import HandS.Lambda
import HandS.Evl
import HandS.Exc
import HandS.EndTab
import HandS.Head0
import HandS.Head1
import HandS.Head2
import HandS.HeadEnd
import HandS.HeadHook1
import HandS.HeadHook2
import HandS.HeadHook3
import HandS.HeadWalk
import KE.SortKeyHeap
import HandS.DictComp
import HandS.SetKeys
import HandS.Conv
import KE.SortData
import PyProof.DictMoreH
import PySem.Challenge.RW_footpath_k60_whole_floors_are_safe
set_option Elab.async false
set_option linter.all false
set_option maxRecDepth 100000
set_option maxHeartbeats 4000000
namespace Fp
open PySem PySem.Spec PyProof.Rows L2
/-! ### the text -/
def topS (i : Nat) : Stmt := PySem.Challenge.pw_footpath_k60_whole_floors_are_safe.main.body.getD i (.Pass ⟨0, 0, 0, 0⟩)
/-- a def of the top as it stands behind it -/
structure Df (K : PySem.W.Frag) (mg : Str → Option Value) (x : Str) (st : Stmt) : Prop where
  ex : ∃ (f : Addr) (fd : FuncData), FunD K x x (defArgs st) (defBody st) (defScope st) [] [] f fd ∧ mg x = some (.ref f)
/-- a method -/
structure Dm (K : PySem.W.Frag) (mg : Str → Option Value) (C : Addr) (m qual : Str) (st : Stmt) : Prop where
  ex : ∃ (f : Addr) (fd : FuncData), FunD K m qual (defArgs st) (defBody st) (defScope st) [] [] f fd ∧ Meth K C m f
/-- a def that keeps its promise, where it stands -/
structure Cal (P : Program) (w : World) (K : PySem.W.Frag) (mg : Str → Option Value) (base : Heap) (x : Str) (k : Nat) (ps : List Str) (sp : Sp) : Prop where
  ex : ∃ (f : Addr) (fd : FuncData), FnOk P w K mg base CX0 k f fd ps sp ∧ mg x = some (.ref f) ∧ PySem.W.keepIn K (.ref f) = true ∧ Binds K fd ps []
structure CalM (P : Program) (w : World) (K : PySem.W.Frag) (mg : Str → Option Value) (base : Heap) (C : Addr) (m : Str) (k : Nat) (ps : List Str) (sp : Sp) : Prop where
  ex : ∃ (f : Addr) (fd : FuncData), FnOk P w K mg base CX0 k f fd ps sp ∧ Meth K C m f ∧ Binds K fd ps []
abbrev BindsOf (ps : List Str) (x q : Str) (st : Stmt) : Prop := ∀ (kV doc pm : Value) (an : Option Addr) (cdv ct : Value) (us : List Value), us.length = ps.length →
  bindArgs (PySem.W.fnOf x q (defArgs st) (defBody st) (defScope st) .none kV doc pm an cdv ct) ⟨us, []⟩ = pure (ps.zip us)
section
variable {P : Program} {w : World} {K : PySem.W.Frag} {mg : Str → Option Value} {base : Heap}
theorem Df.cal {x : Str} {st : Stmt} {N ps : List Str} {k : Nat} {sp : Sp} (D : Df K mg x st) (S : FnScope N ps (defScope st)) (hb : BindsOf ps x x st) (len : ∀ vs H Q E, sp vs H Q E → vs.length = ps.length)
    (hbody : ∀ (f : Addr) (cdv : Value) (A : Around) (outer : List Env) (s : Shared) (H : Hp) (vs : List V) (Q : VK) (E : XK), Room k (A.deeper (envOfC x (defScope st) s.heap.objs.size f cdv)) → sp vs H Q E →
      ∃ t, PSs (cxOf CX0 P w K mg base N x (defScope st) f cdv A outer s H E).nox (defBody st) t ∧ t { nx := fun _ H' => Q .non H', rt := Q } (start N vs) H) : Cal P w K mg base x (k + 1) ps sp := by
  obtain ⟨f, fd, F, hm⟩ := D.ex
  refine ⟨f, fd, F.ok S len fun cdv A outer s H vs Q E hr h => ?_, hm, F.kp, F.bindsN hb⟩
  obtain ⟨t, ht, q⟩ := hbody f cdv A outer s H vs Q E hr h
  exact ⟨t, ht.nox, q⟩
theorem Dm.cal {C : Addr} {m q : Str} {st : Stmt} {N ps : List Str} {k : Nat} {sp : Sp} (D : Dm K mg C m q st) (S : FnScope N ps (defScope st)) (hb : BindsOf ps m q st) (len : ∀ vs H Q E, sp vs H Q E → vs.length = ps.length)
    (hbody : ∀ (f : Addr) (cdv : Value) (A : Around) (outer : List Env) (s : Shared) (H : Hp) (vs : List V) (Q : VK) (E : XK), Room k (A.deeper (envOfC q (defScope st) s.heap.objs.size f cdv)) → sp vs H Q E →
      ∃ t, PSs (cxOf CX0 P w K mg base N q (defScope st) f cdv A outer s H E).nox (defBody st) t ∧ t { nx := fun _ H' => Q .non H', rt := Q } (start N vs) H) : CalM P w K mg base C m (k + 1) ps sp := by
  obtain ⟨f, fd, F, hm⟩ := D.ex
  refine ⟨f, fd, F.ok S len fun cdv A outer s H vs Q E hr h => ?_, hm, F.bindsN hb⟩
  obtain ⟨t, ht, z⟩ := hbody f cdv A outer s H vs Q E hr h
  exact ⟨t, ht.nox, z⟩
end
/-- a call: the callee's promise at the arguments -/
def tCal (sp : Sp) (t : TA) : TE := fun σ H Q => t σ H fun vs H1 => sp vs H1 Q E0
theorem tCal_eq (sp : Sp) (t : TA) : tCall sp [] E0 t = tCal sp t := by
  funext σ H Q
  unfold tCall tCal
  simp only [List.append_nil]
def tCalM (C : Addr) (m : Str) (sp : Sp) (ta : TE) (t : TA) : TE := fun σ H Q => ta σ H fun x H1 => ∃ a dx fs, x = .ref a ∧ H1 a = some (.ins C dx fs) ∧ fs.lookup m = none ∧ t σ H1 fun vs H2 => sp (x :: vs) H2 Q E0
section
variable {X : Cx} {k : Nat} {ps : List Str} {sp : Sp} {x : Str} {p pos apos : Pos} {e o : Expr} {es : List Expr} {t : TA} {ta tb tc td : TE}
theorem pe_callC (C : Cal X.prog X.w X.K X.mg X.base x k ps sp) (hr : Room k X.A) (hg : Gl X x) (ha : PA X (e :: es) t) (hdb : (x == ("__debug__" : Str)) = false := by decide)
    (he : starEach (e :: es) X.env = (false, eval e X.env) :: starEach es X.env := by rfl) (hpl : (backTo pos (starEach es X.env)).any (·.1) = false := by rfl) : PE X (.Call (.Name x p) (e :: es) [] pos) (tCal sp t) := by
  obtain ⟨f, fd, F, hm, hk, hb⟩ := C.ex
  rw [← tCal_eq]
  exact pe_call F hr hg hm hk hb .nil pass0 ha hdb he hpl
theorem pe_methC {C : Addr} {m : Str} {pl : Sem Bool} (M : CalM X.prog X.w X.K X.mg X.base C m k ps sp) (c : Cls X.K C) (hr : Room k X.A) (he : PE X o ta) (ha : PA X (e :: es) t)
    (hst : starEach (e :: es) X.env = (false, eval e X.env) :: starEach es X.env := by rfl) (hpl : (backTo pos (starEach es X.env)).any (·.1) = false := by rfl)
    (ht : eval (.Call (.Attribute o m apos) (e :: es) [] pos) X.env = (do
      let ov ← eval o X.env
      standAt apos.atName
      let (f, first) ← holding [ov] (getMethod ov m pl)
      callWith pos f first (backTo pos (starEach (e :: es) X.env)) (backToKw pos (keywordEach [] X.env))) := by rfl) :
    PE X (.Call (.Attribute o m apos) (e :: es) [] pos) (tCalM C m sp ta t) := by
  obtain ⟨f, fd, F, hm, hb⟩ := M.ex
  have eq : tMeth C m sp [] E0 ta t = tCalM C m sp ta t := by
    funext σ H Q
    unfold tMeth tCalM
    simp only [List.append_nil]
  rw [← eq]
  exact pe_meth he c hm F hr hb .nil pass0 ha hst hpl ht
theorem pe_methC0 {C : Addr} {m : Str} {pl : Sem Bool} (M : CalM X.prog X.w X.K X.mg X.base C m k ps sp) (c : Cls X.K C) (hr : Room k X.A) (he : PE X o ta)
    (ht : eval (.Call (.Attribute o m apos) [] [] pos) X.env = (do
      let ov ← eval o X.env
      standAt apos.atName
      let (f, first) ← holding [ov] (getMethod ov m pl)
      callWith pos f first (backTo pos (starEach [] X.env)) (backToKw pos (keywordEach [] X.env))) := by rfl) :
    PE X (.Call (.Attribute o m apos) [] [] pos) (tCalM C m sp ta tNil) := by
  obtain ⟨f, fd, F, hm, hb⟩ := M.ex
  have eq : tMeth C m sp [] E0 ta tNil = tCalM C m sp ta tNil := by
    funext σ H Q
    unfold tMeth tCalM
    simp only [List.append_nil]
  rw [← eq]
  exact pe_meth0 he c hm F hr hb .nil pass0 ht

/-! ### rules with a name for what they ask -/
def rLen (K : PySem.W.Frag) : List V → Hp → VK → Prop := fun xs H Q => ∃ p ys, xs = [.ref p] ∧ (SqL K H p ys ∨ SqT K H p ys) ∧ Q (.int ys.length) H
theorem c_len (K : PySem.W.Frag) (e : X.K = K := by rfl) : CallR X (.builtin "len") (rLen K) := e ▸ call_len_seq
theorem x_tup (K : PySem.W.Frag) (e : X.K = K := by rfl) : IxR X (rIxT K) := e ▸ ix_tup
theorem x_list (K : PySem.W.Frag) (e : X.K = K := by rfl) : IxR X (rIxL K) := e ▸ ix_list
def rAbs : List V → Hp → VK → Prop := fun xs H Q => ∃ i, xs = [.int i] ∧ Q (.int (if i < 0 then -i else i)) H
theorem c_abs : CallR X (.builtin "abs") rAbs := call_abs
def rMax2 : List V → Hp → VK → Prop := fun xs H Q => ∃ i j, xs = [.int i, .int j] ∧ Q (.int (if j > i then j else i)) H
theorem c_max2 (hc : X.calm = true) : CallR X (.builtin "max") rMax2 := call_max2 hc
def rMin2 : List V → Hp → VK → Prop := fun xs H Q => ∃ i j, xs = [.int i, .int j] ∧ Q (.int (if j < i then j else i)) H
theorem c_min2 (hc : X.calm = true) : CallR X (.builtin "min") rMin2 := call_min2 hc
def rInt : List V → Hp → VK → Prop := fun xs H Q => (∃ i, xs = [.int i] ∧ Q (.int i) H) ∨ ∃ k, xs = [.bl k] ∧ Q (.int (if k then 1 else 0)) H
theorem c_int : CallR X (.type "int") rInt := call_int1
def rTuple (K : PySem.W.Frag) : List V → Hp → VK → Prop := fun xs H Q => ∃ p ys, xs = [.ref p] ∧ ((SqL K H p ys ∧ ∀ l, H l = none → Q (.ref l) (upd H l (.tup ys))) ∨ (SqT K H p ys ∧ Q (.ref p) H))
theorem c_tuple (K : PySem.W.Frag) (e : X.K = K := by rfl) : CallR X (.type "tuple") (rTuple K) := e ▸ call_tuple_of
theorem pt_tr {a : Expr} (ha : PE X a ta) (he : ∀ whole, isTrue a X.env whole = (do let v ← whole; standAt a.pos; holding [v] (truthy v)) := by intro _; rfl) : PT X a (tTru X.K ta) := pt_truth ha he
def rLt : R2 := rI0 fun i j => .bl (decide (i < j))
def rLe : R2 := rI0 fun i j => .bl (decide (i ≤ j))
theorem o_lt : OpR X (compareOp .Lt) rLt := op_lt
theorem o_le : OpR X (compareOp .LtE) rLe := op_le
def rAddI : R2 := rI0 fun i j => .int (i + j)
def rSubI : R2 := rI0 fun i j => .int (i - j)
theorem o_add : OpR X (binaryOp .Add) rAddI := op_add
theorem o_sub : OpR X (binaryOp .Sub) rSubI := op_sub
def rMulI : R2 := rI CMul fun i j => .int (i * j)
theorem o_mul : OpR X (binaryOp .Mult) rMulI := op_mul
def rMulW : R2 := rI CMulW fun i j => .int (i * j)
theorem o_mulW : OpR X (binaryOp .Mult) rMulW := op_mulW
def rDivI : R2 := rI CDiv fun i j => .int (i / j)
theorem o_fdiv : OpR X (binaryOp .FloorDiv) rDivI := op_fdiv
def rModI : R2 := rI (fun _ j => 0 < j) fun i j => .int (i % j)
theorem o_mod : OpR X (binaryOp .Mod) rModI := op_mod
def rNegI : V → Hp → VK → Prop := rU fun i => .int (-i)
theorem u_neg : UnR X (unaryOp .USub) rNegI := un_neg
end

/-! ### readings, step by step -/
/-- σ with v in the i-th slot -/
inductive SetAt : L2.St → Nat → V → L2.St → Prop where
  | z {a : Option V} {l : L2.St} {v : V} : SetAt (a :: l) 0 v (some v :: l)
  | s {a : Option V} {l l' : L2.St} {n : Nat} {v : V} : SetAt l n v l' → SetAt (a :: l) (n + 1) v (a :: l')
theorem SetAt.eq {l l' : L2.St} {n : Nat} {v : V} (h : SetAt l n v l') : l.set n (some v) = l' := by
  induction h with
  | z => rfl
  | s _ ih => simp [List.set, ih]
theorem szl {n : Nat} (h : n ≤ 1000) : n ≤ sizeLine := Nat.le_of_lt (small1000 h)
theorem at0 {α : Type} {a : α} {l : List α} : atI (a :: l) 0 = some a := atI_nat (j := 0) rfl
theorem at1 {α : Type} {a b : α} {l : List α} : atI (a :: b :: l) 1 = some b := atI_nat (j := 1) rfl
theorem at2 {α : Type} {a b c : α} {l : List α} : atI (a :: b :: c :: l) 2 = some c := atI_nat (j := 2) rfl
theorem at3 {α : Type} {a b c d : α} {l : List α} : atI (a :: b :: c :: d :: l) 3 = some d := atI_nat (j := 3) rfl
theorem at4 {α : Type} {a b c d e : α} {l : List α} : atI (a :: b :: c :: d :: e :: l) 4 = some e := atI_nat (j := 4) rfl
theorem at5 {α : Type} {a b c d e f : α} {l : List α} : atI (a :: b :: c :: d :: e :: f :: l) 5 = some f := atI_nat (j := 5) rfl
theorem at6 {α : Type} {a b c d e f g : α} {l : List α} : atI (a :: b :: c :: d :: e :: f :: g :: l) 6 = some g := atI_nat (j := 6) rfl
/-! heaps -/
theorem upd_new {H : Hp} {p b : Addr} {q o : HO} (n : H p = none) (h : H b = some o) : upd H p q b = some o := by rw [upd_ne (ne_of_none h n)]; exact h
theorem upd_tup {H : Hp} {p b : Addr} {q : HO} {xs ys : List V} (n : H p = some (.lst ys)) (h : H b = some (.tup xs)) : upd H p q b = some (.tup xs) := by
  rw [upd_ne (ne_of h n (by intro z; cases z))]; exact h
theorem same_new {H : Hp} {p : Addr} {q : HO} (n : H p = none) : Same H (upd H p q) := fun _ _ h => upd_new n h
theorem same_mut {H H' : Hp} {p : Addr} {q : HO} (n : H p = none) (h : Same H H') : Same H (upd H' p q) := fun b o e => by
  rw [upd_ne (ne_of_none e n)]; exact h b o e
section
variable {σ σ' : L2.St} {H H1 : Hp} {Q : VK} {K : PySem.W.Frag} {ta tb tc : TE} {t u : TS} {te : TE} {g : TG} {D : Ends} {v x y : V} {tA : TA} {i j : Int} {b : Bool} {A B : Prop}
theorem i_var {n : Nat} (e : σ[n]? = some (some v)) (h : Q v H) : tVar n σ H Q := ⟨v, e, h⟩
theorem i_ovc {r : R2} {n : Nat} {c : V} (e : σ[n]? = some (some v)) (h : r v c H Q) : tOp r (tVar n) (tC c) σ H Q := ⟨v, e, h⟩
theorem i_ovv {r : R2} {n m : Nat} {c : V} (e : σ[n]? = some (some v)) (e2 : σ[m]? = some (some c)) (h : r v c H Q) : tOp r (tVar n) (tVar m) σ H Q := ⟨v, e, c, e2, h⟩
theorem i_c (h : Q v H) : tC v σ H Q := h
theorem i_op {r : R2} (h : ta σ H fun x H1 => tb σ H1 fun y H2 => r x y H2 Q) : tOp r ta tb σ H Q := h
theorem i_un {r : V → Hp → VK → Prop} (h : ta σ H fun x H1 => r x H1 Q) : tUn r ta σ H Q := h
theorem i_add (h : Q (.int (i + j)) H) : rAddI (.int i) (.int j) H Q := ⟨i, j, rfl, rfl, h⟩
theorem i_sub (h : Q (.int (i - j)) H) : rSubI (.int i) (.int j) H Q := ⟨i, j, rfl, rfl, h⟩
theorem i_mul (c : CMul i j) (h : Q (.int (i * j)) H) : rMulI (.int i) (.int j) H Q := ⟨i, j, rfl, rfl, c, h⟩
theorem i_mulW (c : CMulW i j) (h : Q (.int (i * j)) H) : rMulW (.int i) (.int j) H Q := ⟨i, j, rfl, rfl, c, h⟩
theorem i_fdiv (c : CDiv i j) (h : Q (.int (i / j)) H) : rDivI (.int i) (.int j) H Q := ⟨i, j, rfl, rfl, c, h⟩
theorem i_mod (c : 0 < j) (h : Q (.int (i % j)) H) : rModI (.int i) (.int j) H Q := ⟨i, j, rfl, rfl, c, h⟩
theorem i_neg (h : Q (.int (-i)) H) : rNegI (.int i) H Q := ⟨i, rfl, h⟩
theorem i_lt (h : Q (.bl (decide (i < j))) H) : rLt (.int i) (.int j) H Q := ⟨i, j, rfl, rfl, h⟩
theorem i_le (h : Q (.bl (decide (i ≤ j))) H) : rLe (.int i) (.int j) H Q := ⟨i, j, rfl, rfl, h⟩
theorem i_gt (h : Q (.bl (decide (j < i))) H) : rGt (.int i) (.int j) H Q := ⟨i, j, rfl, rfl, h⟩
theorem i_ge (h : Q (.bl (decide (j ≤ i))) H) : rGe (.int i) (.int j) H Q := ⟨i, j, rfl, rfl, h⟩
theorem i_eq (h : Q (.bl (decide (i = j))) H) : rEq (.int i) (.int j) H Q := ⟨rfl, by
  have e : decide (V.int i = V.int j) = decide (i = j) := by simp
  rw [e]; exact h⟩
theorem i_ne (h : Q (.bl (!decide (i = j))) H) : rNe (.int i) (.int j) H Q := ⟨rfl, by
  have e : decide (V.int i = V.int j) = decide (i = j) := by simp
  rw [e]; exact h⟩
theorem i_isN (h : Q (.bl (decide (x = .non))) H) : rIsN x .non H Q := ⟨rfl, h⟩
theorem i_notN (h : Q (.bl (!decide (x = .non))) H) : rNotN x .non H Q := ⟨rfl, h⟩
theorem i_isN_non (h : Q (.bl true) H) : rIsN .non .non H Q := ⟨rfl, h⟩
theorem i_isN_int (h : Q (.bl false) H) : rIsN (.int i) .non H Q := ⟨rfl, h⟩
theorem i_isN_ref {a : Addr} (h : Q (.bl false) H) : rIsN (.ref a) .non H Q := ⟨rfl, h⟩
theorem i_notN_non (h : Q (.bl false) H) : rNotN .non .non H Q := ⟨rfl, h⟩
theorem i_notN_int (h : Q (.bl true) H) : rNotN (.int i) .non H Q := ⟨rfl, h⟩
theorem i_notN_ref {a : Addr} (h : Q (.bl true) H) : rNotN (.ref a) .non H Q := ⟨rfl, h⟩
theorem i_ixT {p : Addr} {xs : List V} (s : H p = some (.tup xs)) (e : atI xs i = some v) (h : Q v H) : rIxT K (.ref p) (.int i) H Q := ⟨p, xs, i, v, rfl, rfl, SqT.of s, e, h⟩
theorem i_ixL {p : Addr} {xs : List V} (s : H p = some (.lst xs)) (e : atI xs i = some v) (h : Q v H) : rIxL K (.ref p) (.int i) H Q := ⟨p, xs, i, v, rfl, rfl, SqL.of s, e, h⟩
/-! tests -/
theorem i_test (h : te σ H fun x H' => ∃ k, x = V.bl k ∧ (fun (b : Bool) H => A) k H') : tTest te σ H (fun _ _ => A) := h
theorem i_tst {Qb : Bool → Hp → Prop} (h : te σ H fun x H' => ∃ k, x = V.bl k ∧ Qb k H') : tTest te σ H Qb := h
theorem i_tb {Qb : Bool → Hp → Prop} (h : te σ H fun x H' => ∃ k, x = V.bl k ∧ Qb k H') : tB te σ H Qb := h
theorem i_bl {P : Bool → Prop} (h : P b) : ∃ k, V.bl b = V.bl k ∧ P k := ⟨b, rfl, h⟩
theorem i_and {t1 t2 : TT} {Qb : Bool → Hp → Prop} (h : t1 σ H fun c H1 => if c = true then t2 σ H1 Qb else Qb false H1) : tAnd t1 t2 σ H Qb := h
theorem i_or {t1 t2 : TT} {Qb : Bool → Hp → Prop} (h : t1 σ H fun c H1 => if c = true then Qb true H1 else t2 σ H1 Qb) : tOr t1 t2 σ H Qb := h
theorem i_not {t1 : TT} {Qb : Bool → Hp → Prop} (h : t1 σ H fun c H1 => Qb (!c) H1) : tNot t1 σ H Qb := h
theorem i_andV (h : ta σ H fun x H1 => ∃ c, x = V.bl c ∧ if c = true then tb σ H1 Q else Q (.bl false) H1) : tAndV ta tb σ H Q := h
theorem i_orV (h : ta σ H fun x H1 => ∃ c, x = V.bl c ∧ if c = true then Q (.bl true) H1 else tb σ H1 Q) : tOrV ta tb σ H Q := h
theorem i_notV (h : ta σ H fun x H1 => ∃ c, x = V.bl c ∧ Q (.bl (!c)) H1) : tNotV ta σ H Q := h
theorem i_ifE {t1 : TT} (h : t1 σ H fun c H1 => if c = true then ta σ H1 Q else tb σ H1 Q) : tIf t1 ta tb σ H Q := h
theorem i_chain {r r' : R2} (h : ta σ H fun x H1 => tb σ H1 fun y H2 => r x y H2 fun z H3 => ∃ k, z = V.bl k ∧ (if k = true then tc σ H3 fun w' H4 => r' y w' H4 Q else Q (.bl false) H3)) : tChain r r' ta tb tc σ H Q := h
theorem i_dec {p : Prop} [Decidable p] (h1 : p → A) (h2 : ¬ p → B) : if decide p = true then A else B := by
  by_cases h : p
  · rw [if_pos (decide_eq_true h)]; exact h1 h
  · rw [if_neg (by simpa using h)]; exact h2 h
theorem i_ndec {p : Prop} [Decidable p] (h1 : ¬ p → A) (h2 : p → B) : if (!decide p) = true then A else B := by
  by_cases h : p
  · rw [if_neg (by simpa using h)]; exact h2 h
  · rw [if_pos (by simpa using h)]; exact h1 h
theorem i_bt (h : A) : if true = true then A else B := by rw [if_pos rfl]; exact h
theorem i_bf (h : B) : if false = true then A else B := by rw [if_neg Bool.false_ne_true]; exact h
theorem i_nbt (h : B) : if (!true) = true then A else B := i_bf h
theorem i_nbf (h : A) : if (!false) = true then A else B := i_bt h
theorem i_b (h1 : b = true → A) (h2 : b = false → B) : if b = true then A else B := by
  cases b
  · exact i_bf (h2 rfl)
  · exact i_bt (h1 rfl)
theorem i_nb (h1 : b = false → A) (h2 : b = true → B) : if (!b) = true then A else B := by
  cases b
  · exact i_bt (h1 rfl)
  · exact i_bf (h2 rfl)
/-! arguments, displays, calls -/
theorem i_nil {R : List V → Hp → Prop} (h : R [] H) : tNil σ H R := h
theorem i_cons {R : List V → Hp → Prop} (h : ta σ H fun x H1 => tA σ H1 fun xs H2 => R (x :: xs) H2) : tCons ta tA σ H R := h
theorem i_tup (h : tA σ H fun xs H1 => xs.length ≤ sizeLine ∧ ∀ p, H1 p = none → Q (.ref p) (upd H1 p (.tup xs))) : tTup tA σ H Q := h
theorem i_lst (h : tA σ H fun xs H1 => xs.length ≤ sizeLine ∧ ∀ p, H1 p = none → Q (.ref p) (upd H1 p (.lst xs))) : tLst tA σ H Q := h
theorem i_made {n : Nat} {P : Addr → Prop} (hn : n ≤ 1000) (h : ∀ p, H p = none → P p) : n ≤ sizeLine ∧ ∀ p, H p = none → P p := ⟨szl hn, h⟩
theorem i_cal {sp : Sp} (h : tA σ H fun vs H1 => sp vs H1 Q E0) : tCal sp tA σ H Q := h
theorem i_cb {r : List V → Hp → VK → Prop} (h : tA σ H fun vs H1 => r vs H1 Q) : tCB r tA σ H Q := h
theorem i_lenL {p : Addr} {xs : List V} (s : H p = some (.lst xs)) (h : Q (.int xs.length) H) : rLen K [.ref p] H Q := ⟨p, xs, rfl, .inl (SqL.of s), h⟩
theorem i_lenT {p : Addr} {xs : List V} (s : H p = some (.tup xs)) (h : Q (.int xs.length) H) : rLen K [.ref p] H Q := ⟨p, xs, rfl, .inr (SqT.of s), h⟩
theorem i_abs (h : Q (.int (if i < 0 then -i else i)) H) : rAbs [.int i] H Q := ⟨i, rfl, h⟩
theorem i_max2 (h : Q (.int (if j > i then j else i)) H) : rMax2 [.int i, .int j] H Q := ⟨i, j, rfl, h⟩
theorem i_min2 (h : Q (.int (if j < i then j else i)) H) : rMin2 [.int i, .int j] H Q := ⟨i, j, rfl, h⟩
theorem i_int (h : Q (.int i) H) : rInt [.int i] H Q := .inl ⟨i, rfl, h⟩
theorem i_tupleL {p : Addr} {xs : List V} (s : H p = some (.lst xs)) (h : ∀ l, H l = none → Q (.ref l) (upd H l (.tup xs))) : rTuple K [.ref p] H Q := ⟨p, xs, rfl, .inl ⟨SqL.of s, h⟩⟩
theorem i_tupleT {p : Addr} {xs : List V} (s : H p = some (.tup xs)) (h : Q (.ref p) H) : rTuple K [.ref p] H Q := ⟨p, xs, rfl, .inr ⟨SqT.of s, h⟩⟩
/-! statements -/
theorem i_seq (h : t { D with nx := u D } σ H) : tSeq t u D σ H := h
theorem i_cut (M : L2.St → Hp → Prop) (h1 : t { D with nx := M } σ H) (h2 : ∀ σ' H', M σ' H' → u D σ' H') : Evl.tCut t u D σ H := ⟨M, h1, h2⟩
theorem i_asg (h : te σ H fun x H1 => g x σ H1 D.nx) : tAsg te g D σ H := h
theorem i_ret (h : te σ H D.rt) : tRet te D σ H := h
theorem i_retN (h : D.rt .non H) : tRetN D σ H := h
theorem i_drop (h : te σ H fun _ H1 => D.nx σ H1) : tDrop te D σ H := h
theorem i_if {c : TT} (h : c σ H fun b H1 => if b = true then t D σ H1 else u D σ H1) : tIfS c t u D σ H := h
theorem i_next (h : D.nx σ H) : tNext D σ H := h
theorem i_gname {n : Nat} {R : L2.St → Hp → Prop} (e : SetAt σ n v σ') (h : R σ' H) : gName n v σ H R := by
  show R (σ.set n (some v)) H
  rw [e.eq]; exact h
theorem i_gtup {n : Nat} {ts : TGs} {R : L2.St → Hp → Prop} {p : Addr} {xs : List V} (s : H p = some (.tup xs)) (hl : xs.length = n) (h : ts xs σ H R) : gTup K n ts (.ref p) σ H R := ⟨p, xs, rfl, SqT.of s, hl, h⟩
theorem i_gcons {ts : TGs} {r : List V} {R : L2.St → Hp → Prop} (h : g v σ H fun σ' H' => ts r σ' H' R) : gCons g ts (v :: r) σ H R := ⟨v, r, rfl, h⟩
theorem i_gnil {R : L2.St → Hp → Prop} (h : R σ H) : gNil [] σ H R := ⟨rfl, h⟩
/-! methods of lists -/
theorem i_bm {T : String} {r : V → List V → Hp → VK → Prop} (h : te σ H fun x H1 => tyV K T x H1 ∧ tA σ H1 fun xs H2 => r x xs H2 Q) : tBM K T r te tA σ H Q := h
theorem i_tyL {p : Addr} {xs : List V} (s : H p = some (.lst xs)) (h : A) : tyV K "list" (.ref p) H ∧ A := ⟨.inl ⟨rfl, xs, SqL.of s⟩, h⟩
theorem i_append {p : Addr} {xs : List V} (s : H p = some (.lst xs)) (hl : xs.length < sizeLine) (h : Q .non (upd H p (.lst (xs ++ [v])))) : rAppend (.ref p) [v] H Q := ⟨p, xs, v, rfl, rfl, s, hl, h⟩
theorem i_extend {p q : Addr} {xs zs : List V} (s : H p = some (.lst xs)) (s2 : H q = some (.lst zs)) (hl : xs.length + zs.length ≤ sizeLine) (h : Q .non (upd H p (.lst (xs ++ zs)))) : rExtend (.ref p) [.ref q] H Q := ⟨p, q, xs, zs, rfl, rfl, s, s2, hl, h⟩
end
/-! ### what the top leaves -/
theorem b_abs : bootBuiltins "abs" = some (.builtin "abs") := PyProof.Rows.boot_abs
theorem b_max : bootBuiltins "max" = some (.builtin "max") := by decide +kernel
theorem b_min : bootBuiltins "min" = some (.builtin "min") := by decide +kernel
theorem b_all : bootBuiltins "all" = some (.builtin "all") := by decide +kernel
theorem b_sorted : bootBuiltins "sorted" = some (.builtin "sorted") := by decide +kernel
theorem b_int : bootBuiltins "int" = some (.type "int") := by decide +kernel
theorem b_tuple : bootBuiltins "tuple" = some (.type "tuple") := by decide +kernel
abbrev CS (K : PySem.W.Frag) : Addr := He.ga K "Settings"
structure Tx (K : PySem.W.Frag) (mg : Str → Option Value) : Prop where
  len : mg "len" = none
  abs : mg "abs" = none
  max : mg "max" = none
  min : mg "min" = none
  all : mg "all" = none
  sorted : mg "sorted" = none
  int : mg "int" = none
  tuple : mg "tuple" = none
  range : mg "range" = none
  most_cells : ∃ t, mg "MOST_CELLS" = some (.int 64 t)
  most_length : ∃ t, mg "MOST_LENGTH" = some (.int 1000 t)
  cls : Cls K (CS K)
  gS : mg "Settings" = some (.ref (CS K))
  n_columns : NoAttr K (CS K) "columns"
  n_rows : NoAttr K (CS K) "rows"
  n_cell : NoAttr K (CS K) "cell"
  n_level : NoAttr K (CS K) "level"
  n_width : NoAttr K (CS K) "width"
  n_height : NoAttr K (CS K) "height"
  n_step : NoAttr K (CS K) "step"
  n_slope : NoAttr K (CS K) "slope"
  n_slack : NoAttr K (CS K) "slack"
  n_tile : NoAttr K (CS K) "tile"
  n_tall : NoAttr K (CS K) "tall"
  n_rise : NoAttr K (CS K) "rise"
  n_reach : NoAttr K (CS K) "reach"
  open_levels : Df K mg "open_levels" (topS 1)
  is_free : Df K mg "is_free" (topS 2)
  has_room : Df K mg "has_room" (topS 3)
  levels_of : Df K mg "levels_of" (topS 4)
  floors_of : Df K mg "floors_of" (topS 5)
  partner : Df K mg "partner" (topS 6)
  grown_right : Df K mg "grown_right" (topS 8)
  row_below : Df K mg "row_below" (topS 9)
  plate_at : Df K mg "plate_at" (topS 10)
  tile_plates : Df K mg "tile_plates" (topS 11)
  plate_floors : Df K mg "plate_floors" (topS 12)
  owners : Df K mg "owners" (topS 13)
  gathered : Df K mg "gathered" (topS 14)
  border : Df K mg "border" (topS 15)
  portal_of : Df K mg "portal_of" (topS 16)
  side_portals : Df K mg "side_portals" (topS 17)
  joined_portals : Df K mg "joined_portals" (topS 18)
  mesh : Df K mg "mesh" (topS 19)
  require : Df K mg "require" (topS 26)
  ceiled : Df K mg "ceiled" (topS 27)
  init : ∃ (f : Addr) (fd : FuncData), FunD K "__init__" "Settings.__init__" (defArgs (inClass (topS 28) 0)) (defBody (inClass (topS 28) 0)) (defScope (inClass (topS 28) 0)) [] [("slack", V.int 0), ("tile", V.int 8)] f fd ∧ Mk K (CS K) f
  m_has_cell : Dm K mg (CS K) "has_cell" "Settings.has_cell" (inClass (topS 28) 1)
  m_tiles : Dm K mg (CS K) "tiles" "Settings.tiles" (inClass (topS 28) 2)
  m_tile_cells : Dm K mg (CS K) "tile_cells" "Settings.tile_cells" (inClass (topS 28) 3)
  minus : Df K mg "minus" (topS 30)
  normal : Df K mg "normal" (topS 31)
  is_flat : Df K mg "is_flat" (topS 32)
  less : Df K mg "less" (topS 33)
  positive : Df K mg "positive" (topS 34)
  on_edge : Df K mg "on_edge" (topS 35)
  side : Df K mg "side" (topS 36)
  at_corner : Df K mg "at_corner" (topS 37)
  heights : Df K mg "heights" (topS 38)
  extent : Df K mg "extent" (topS 39)
  square : Df K mg "square" (topS 41)
  triangle_solid : Df K mg "triangle_solid" (topS 42)
  box_solid : Df K mg "box_solid" (topS 43)
  higher : Df K mg "higher" (topS 44)
  merged : Df K mg "merged" (topS 45)
  column : Df K mg "column" (topS 46)
  met_range : Df K mg "met_range" (topS 47)
  range_of : Df K mg "range_of" (topS 48)
  cells_of : Df K mg "cells_of" (topS 49)
  triangle_cells : Df K mg "triangle_cells" (topS 50)
  overlap : Df K mg "overlap" (topS 51)
  columns_of : Df K mg "columns_of" (topS 52)
  law_state : Df K mg "_law_state" (topS 54)
  law_draw : Df K mg "_law_draw" (topS 55)
  law_settings : Df K mg "_law_settings" (topS 56)
  law_along : Df K mg "_law_along" (topS 57)
  law_triangle : Df K mg "_law_triangle" (topS 58)
  law_ground : Df K mg "_law_ground" (topS 59)
  law_soup : Df K mg "_law_soup" (topS 60)
  law_box : Df K mg "_law_box" (topS 61)
  law_boxes : Df K mg "_law_boxes" (topS 62)
  law_beyond : Df K mg "_law_beyond" (topS 63)
  law_cut : Df K mg "_law_cut" (topS 64)
  law_clip : Df K mg "_law_clip" (topS 65)
  law_over : Df K mg "_law_over" (topS 66)
  law_extent : Df K mg "_law_extent" (topS 67)
  law_flat : Df K mg "_law_flat" (topS 68)
  law_boxed : Df K mg "_law_boxed" (topS 69)
  law_touches : Df K mg "_law_touches" (topS 70)
  law_box_touches : Df K mg "_law_box_touches" (topS 71)
  law_safe : Df K mg "_law_safe" (topS 72)
  law_held : Df K mg "_law_held" (topS 73)
  law : Df K mg "law" (topS 74)
end Fp
set_option maxHeartbeats 0
namespace FpH
open PySem PySem.Spec PyProof.Rows L2 Fp
/-! ### the head -/
def d_open_levels : He.DefD := ⟨("open_levels", none), "open_levels", "open_levels", defArgs (topS 1), defBody (topS 1), defScope (topS 1), [], []⟩
def d_is_free : He.DefD := ⟨("is_free", none), "is_free", "is_free", defArgs (topS 2), defBody (topS 2), defScope (topS 2), [], []⟩
def d_has_room : He.DefD := ⟨("has_room", none), "has_room", "has_room", defArgs (topS 3), defBody (topS 3), defScope (topS 3), [], []⟩
def d_levels_of : He.DefD := ⟨("levels_of", none), "levels_of", "levels_of", defArgs (topS 4), defBody (topS 4), defScope (topS 4), [], []⟩
def d_floors_of : He.DefD := ⟨("floors_of", none), "floors_of", "floors_of", defArgs (topS 5), defBody (topS 5), defScope (topS 5), [], []⟩
def d_partner : He.DefD := ⟨("partner", none), "partner", "partner", defArgs (topS 6), defBody (topS 6), defScope (topS 6), [], []⟩
def d_grown_right : He.DefD := ⟨("grown_right", none), "grown_right", "grown_right", defArgs (topS 8), defBody (topS 8), defScope (topS 8), [], []⟩
def d_row_below : He.DefD := ⟨("row_below", none), "row_below", "row_below", defArgs (topS 9), defBody (topS 9), defScope (topS 9), [], []⟩
def d_plate_at : He.DefD := ⟨("plate_at", none), "plate_at", "plate_at", defArgs (topS 10), defBody (topS 10), defScope (topS 10), [], []⟩
def d_tile_plates : He.DefD := ⟨("tile_plates", none), "tile_plates", "tile_plates", defArgs (topS 11), defBody (topS 11), defScope (topS 11), [], []⟩
def d_plate_floors : He.DefD := ⟨("plate_floors", none), "plate_floors", "plate_floors", defArgs (topS 12), defBody (topS 12), defScope (topS 12), [], []⟩
def d_owners : He.DefD := ⟨("owners", none), "owners", "owners", defArgs (topS 13), defBody (topS 13), defScope (topS 13), [], []⟩
def d_gathered : He.DefD := ⟨("gathered", none), "gathered", "gathered", defArgs (topS 14), defBody (topS 14), defScope (topS 14), [], []⟩
def d_border : He.DefD := ⟨("border", none), "border", "border", defArgs (topS 15), defBody (topS 15), defScope (topS 15), [], []⟩
def d_portal_of : He.DefD := ⟨("portal_of", none), "portal_of", "portal_of", defArgs (topS 16), defBody (topS 16), defScope (topS 16), [], []⟩
def d_side_portals : He.DefD := ⟨("side_portals", none), "side_portals", "side_portals", defArgs (topS 17), defBody (topS 17), defScope (topS 17), [], []⟩
def d_joined_portals : He.DefD := ⟨("joined_portals", none), "joined_portals", "joined_portals", defArgs (topS 18), defBody (topS 18), defScope (topS 18), [], []⟩
def d_mesh : He.DefD := ⟨("mesh", none), "mesh", "mesh", defArgs (topS 19), defBody (topS 19), defScope (topS 19), [], []⟩
def d_require : He.DefD := ⟨("require", none), "require", "require", defArgs (topS 26), defBody (topS 26), defScope (topS 26), [], []⟩
def d_ceiled : He.DefD := ⟨("ceiled", none), "ceiled", "ceiled", defArgs (topS 27), defBody (topS 27), defScope (topS 27), [], []⟩
def d_m_init : He.DefD := ⟨("Settings", some "__init__"), "__init__", "Settings.__init__", defArgs (inClass (topS 28) 0), defBody (inClass (topS 28) 0), defScope (inClass (topS 28) 0), [], [("slack", .int 0), ("tile", .int 8)]⟩
def d_m_has_cell : He.DefD := ⟨("Settings", some "has_cell"), "has_cell", "Settings.has_cell", defArgs (inClass (topS 28) 1), defBody (inClass (topS 28) 1), defScope (inClass (topS 28) 1), [], []⟩
def d_m_tiles : He.DefD := ⟨("Settings", some "tiles"), "tiles", "Settings.tiles", defArgs (inClass (topS 28) 2), defBody (inClass (topS 28) 2), defScope (inClass (topS 28) 2), [], []⟩
def d_m_tile_cells : He.DefD := ⟨("Settings", some "tile_cells"), "tile_cells", "Settings.tile_cells", defArgs (inClass (topS 28) 3), defBody (inClass (topS 28) 3), defScope (inClass (topS 28) 3), [], []⟩
def d_minus : He.DefD := ⟨("minus", none), "minus", "minus", defArgs (topS 30), defBody (topS 30), defScope (topS 30), [], []⟩
def d_normal : He.DefD := ⟨("normal", none), "normal", "normal", defArgs (topS 31), defBody (topS 31), defScope (topS 31), [], []⟩
def d_is_flat : He.DefD := ⟨("is_flat", none), "is_flat", "is_flat", defArgs (topS 32), defBody (topS 32), defScope (topS 32), [], []⟩
def d_less : He.DefD := ⟨("less", none), "less", "less", defArgs (topS 33), defBody (topS 33), defScope (topS 33), [], []⟩
def d_positive : He.DefD := ⟨("positive", none), "positive", "positive", defArgs (topS 34), defBody (topS 34), defScope (topS 34), [], []⟩
def d_on_edge : He.DefD := ⟨("on_edge", none), "on_edge", "on_edge", defArgs (topS 35), defBody (topS 35), defScope (topS 35), [], []⟩
def d_side : He.DefD := ⟨("side", none), "side", "side", defArgs (topS 36), defBody (topS 36), defScope (topS 36), [], []⟩
def d_at_corner : He.DefD := ⟨("at_corner", none), "at_corner", "at_corner", defArgs (topS 37), defBody (topS 37), defScope (topS 37), [], []⟩
def d_heights : He.DefD := ⟨("heights", none), "heights", "heights", defArgs (topS 38), defBody (topS 38), defScope (topS 38), [], []⟩
def d_extent : He.DefD := ⟨("extent", none), "extent", "extent", defArgs (topS 39), defBody (topS 39), defScope (topS 39), [], []⟩
def d_square : He.DefD := ⟨("square", none), "square", "square", defArgs (topS 41), defBody (topS 41), defScope (topS 41), [], []⟩
def d_triangle_solid : He.DefD := ⟨("triangle_solid", none), "triangle_solid", "triangle_solid", defArgs (topS 42), defBody (topS 42), defScope (topS 42), [], []⟩
def d_box_solid : He.DefD := ⟨("box_solid", none), "box_solid", "box_solid", defArgs (topS 43), defBody (topS 43), defScope (topS 43), [], []⟩
def d_higher : He.DefD := ⟨("higher", none), "higher", "higher", defArgs (topS 44), defBody (topS 44), defScope (topS 44), [], []⟩
def d_merged : He.DefD := ⟨("merged", none), "merged", "merged", defArgs (topS 45), defBody (topS 45), defScope (topS 45), [], []⟩
def d_column : He.DefD := ⟨("column", none), "column", "column", defArgs (topS 46), defBody (topS 46), defScope (topS 46), [], []⟩
def d_met_range : He.DefD := ⟨("met_range", none), "met_range", "met_range", defArgs (topS 47), defBody (topS 47), defScope (topS 47), [], []⟩
def d_range_of : He.DefD := ⟨("range_of", none), "range_of", "range_of", defArgs (topS 48), defBody (topS 48), defScope (topS 48), [], []⟩
def d_cells_of : He.DefD := ⟨("cells_of", none), "cells_of", "cells_of", defArgs (topS 49), defBody (topS 49), defScope (topS 49), [], []⟩
def d_triangle_cells : He.DefD := ⟨("triangle_cells", none), "triangle_cells", "triangle_cells", defArgs (topS 50), defBody (topS 50), defScope (topS 50), [], []⟩
def d_overlap : He.DefD := ⟨("overlap", none), "overlap", "overlap", defArgs (topS 51), defBody (topS 51), defScope (topS 51), [], []⟩
def d_columns_of : He.DefD := ⟨("columns_of", none), "columns_of", "columns_of", defArgs (topS 52), defBody (topS 52), defScope (topS 52), [], []⟩
def d_law_state : He.DefD := ⟨("_law_state", none), "_law_state", "_law_state", defArgs (topS 54), defBody (topS 54), defScope (topS 54), [], []⟩
def d_law_draw : He.DefD := ⟨("_law_draw", none), "_law_draw", "_law_draw", defArgs (topS 55), defBody (topS 55), defScope (topS 55), [], []⟩
def d_law_settings : He.DefD := ⟨("_law_settings", none), "_law_settings", "_law_settings", defArgs (topS 56), defBody (topS 56), defScope (topS 56), [], []⟩
def d_law_along : He.DefD := ⟨("_law_along", none), "_law_along", "_law_along", defArgs (topS 57), defBody (topS 57), defScope (topS 57), [], []⟩
def d_law_triangle : He.DefD := ⟨("_law_triangle", none), "_law_triangle", "_law_triangle", defArgs (topS 58), defBody (topS 58), defScope (topS 58), [], []⟩
def d_law_ground : He.DefD := ⟨("_law_ground", none), "_law_ground", "_law_ground", defArgs (topS 59), defBody (topS 59), defScope (topS 59), [], []⟩
def d_law_soup : He.DefD := ⟨("_law_soup", none), "_law_soup", "_law_soup", defArgs (topS 60), defBody (topS 60), defScope (topS 60), [], []⟩
def d_law_box : He.DefD := ⟨("_law_box", none), "_law_box", "_law_box", defArgs (topS 61), defBody (topS 61), defScope (topS 61), [], []⟩
def d_law_boxes : He.DefD := ⟨("_law_boxes", none), "_law_boxes", "_law_boxes", defArgs (topS 62), defBody (topS 62), defScope (topS 62), [], []⟩
def d_law_beyond : He.DefD := ⟨("_law_beyond", none), "_law_beyond", "_law_beyond", defArgs (topS 63), defBody (topS 63), defScope (topS 63), [], []⟩
def d_law_cut : He.DefD := ⟨("_law_cut", none), "_law_cut", "_law_cut", defArgs (topS 64), defBody (topS 64), defScope (topS 64), [], []⟩
def d_law_clip : He.DefD := ⟨("_law_clip", none), "_law_clip", "_law_clip", defArgs (topS 65), defBody (topS 65), defScope (topS 65), [], []⟩
def d_law_over : He.DefD := ⟨("_law_over", none), "_law_over", "_law_over", defArgs (topS 66), defBody (topS 66), defScope (topS 66), [], []⟩
def d_law_extent : He.DefD := ⟨("_law_extent", none), "_law_extent", "_law_extent", defArgs (topS 67), defBody (topS 67), defScope (topS 67), [], []⟩
def d_law_flat : He.DefD := ⟨("_law_flat", none), "_law_flat", "_law_flat", defArgs (topS 68), defBody (topS 68), defScope (topS 68), [], []⟩
def d_law_boxed : He.DefD := ⟨("_law_boxed", none), "_law_boxed", "_law_boxed", defArgs (topS 69), defBody (topS 69), defScope (topS 69), [], []⟩
def d_law_touches : He.DefD := ⟨("_law_touches", none), "_law_touches", "_law_touches", defArgs (topS 70), defBody (topS 70), defScope (topS 70), [], []⟩
def d_law_box_touches : He.DefD := ⟨("_law_box_touches", none), "_law_box_touches", "_law_box_touches", defArgs (topS 71), defBody (topS 71), defScope (topS 71), [], []⟩
def d_law_safe : He.DefD := ⟨("_law_safe", none), "_law_safe", "_law_safe", defArgs (topS 72), defBody (topS 72), defScope (topS 72), [], []⟩
def d_law_held : He.DefD := ⟨("_law_held", none), "_law_held", "_law_held", defArgs (topS 73), defBody (topS 73), defScope (topS 73), [], []⟩
def d_law : He.DefD := ⟨("law", none), "law", "law", defArgs (topS 74), defBody (topS 74), defScope (topS 74), [], []⟩
def fn : List He.DefD := ([d_open_levels, d_is_free, d_has_room, d_levels_of, d_floors_of, d_partner, d_grown_right, d_row_below, d_plate_at, d_tile_plates, d_plate_floors, d_owners, d_gathered, d_border, d_portal_of, d_side_portals, d_joined_portals, d_mesh, d_require, d_ceiled, d_m_init, d_m_has_cell, d_m_tiles, d_m_tile_cells, d_minus, d_normal, d_is_flat, d_less, d_positive, d_on_edge] : List He.DefD) ++ ([d_side, d_at_corner, d_heights, d_extent, d_square, d_triangle_solid, d_box_solid, d_higher, d_merged, d_column, d_met_range, d_range_of, d_cells_of, d_triangle_cells, d_overlap, d_columns_of, d_law_state, d_law_draw, d_law_settings, d_law_along, d_law_triangle, d_law_ground, d_law_soup, d_law_box, d_law_boxes, d_law_beyond, d_law_cut, d_law_clip, d_law_over, d_law_extent] : List He.DefD) ++ ([d_law_flat, d_law_boxed, d_law_touches, d_law_box_touches, d_law_safe, d_law_held, d_law] : List He.DefD)
def names : List PySem.Str := (["open_levels", "is_free", "has_room", "levels_of", "floors_of", "partner", "grown_right", "row_below", "plate_at", "tile_plates", "plate_floors", "owners", "gathered", "border", "portal_of", "side_portals", "joined_portals", "mesh", "FootpathError", "SettingsError", "MOST_CELLS", "MOST_LENGTH", "require", "ceiled", "Settings", "minus", "normal", "is_flat", "less", "positive"] : List PySem.Str) ++ (["on_edge", "side", "at_corner", "heights", "extent", "square", "triangle_solid", "box_solid", "higher", "merged", "column", "met_range", "range_of", "cells_of", "triangle_cells", "overlap", "columns_of", "_law_state", "_law_draw", "_law_settings", "_law_along", "_law_triangle", "_law_ground", "_law_soup", "_law_box", "_law_boxes", "_law_beyond", "_law_cut", "_law_clip", "_law_over"] : List PySem.Str) ++ (["_law_extent", "_law_flat", "_law_boxed", "_law_touches", "_law_box_touches", "_law_safe", "_law_held"] : List PySem.Str)
def fa : List He.Fa := ([.free "len", .free "abs", .free "max", .free "min", .free "all", .free "sorted", .free "int", .free "tuple", .free "range", .int "MOST_CELLS" 64, .int "MOST_LENGTH" 1000, .cls "Settings", .glo "Settings", .mkr "Settings", .noat "Settings" "columns", .noat "Settings" "rows", .noat "Settings" "cell", .noat "Settings" "level", .noat "Settings" "width", .noat "Settings" "height", .noat "Settings" "step", .noat "Settings" "slope", .noat "Settings" "slack", .noat "Settings" "tile", .noat "Settings" "tall", .noat "Settings" "rise", .noat "Settings" "reach", .meth "Settings" "has_cell", .meth "Settings" "tiles", .meth "Settings" "tile_cells"] : List He.Fa) ++ ([.glo "open_levels", .glo "is_free", .glo "has_room", .glo "levels_of", .glo "floors_of", .glo "partner", .glo "grown_right", .glo "row_below", .glo "plate_at", .glo "tile_plates", .glo "plate_floors", .glo "owners", .glo "gathered", .glo "border", .glo "portal_of", .glo "side_portals", .glo "joined_portals", .glo "mesh", .glo "require", .glo "ceiled", .glo "minus", .glo "normal", .glo "is_flat", .glo "less", .glo "positive", .glo "on_edge", .glo "side", .glo "at_corner", .glo "heights", .glo "extent"] : List He.Fa) ++ ([.glo "square", .glo "triangle_solid", .glo "box_solid", .glo "higher", .glo "merged", .glo "column", .glo "met_range", .glo "range_of", .glo "cells_of", .glo "triangle_cells", .glo "overlap", .glo "columns_of", .glo "_law_state", .glo "_law_draw", .glo "_law_settings", .glo "_law_along", .glo "_law_triangle", .glo "_law_ground", .glo "_law_soup", .glo "_law_box", .glo "_law_boxes", .glo "_law_beyond", .glo "_law_cut", .glo "_law_clip", .glo "_law_over", .glo "_law_extent", .glo "_law_flat", .glo "_law_boxed", .glo "_law_touches", .glo "_law_box_touches"] : List He.Fa) ++ ([.glo "_law_safe", .glo "_law_held", .glo "law"] : List He.Fa)
abbrev R : PySem.W.OpenRow := PySem.W.OpenLaw.row PySem.Challenge.rw_footpath_k60_whole_floors_are_safe
def tf : List He.Defn := [("merged", none)]
def ex (_ : PySem.W.Frag) : Bool := true
abbrev hk : PySem.W.Hook := He.hookX 4 fa fn [] tf ex
def ob (s : PySem.W.SharedT) : He.AlX := He.obsX 4 fa fn [] tf ex (HandSHeadRun.getT s)
theorem ob_eq (s : PySem.W.SharedT) : ob s = hk.obs s.abs := He.obsX_eq (HandSHeadRun.getT_eq s)
theorem run (w : World) : HandSHeadRun.RunEq R (PySem.W.view R.prog [74]) hk ob 3000 names w := by
  intro os
  kernel_rfl
end FpH
section
open PySem PySem.W PySem.Calls PyProof.Rows
/-- the statement, once the law's def keeps its promise -/
theorem FpH.holds_of (F : ∀ (w : World) (mg : PySem.Str → Option Value) (fa : Addr) (h : Heap) (K : PySem.W.Frag), K.In h → He.SaysX FpH.fa FpH.fn [] FpH.tf FpH.ex w h K → h.Ns mainGlobals mg → mg ("law" : PySem.Str) = some (.ref fa) →
    LamX.LawAtS PySem.Challenge.rw_footpath_k60_whole_floors_are_safe w K L2.CX0 9 63 "_law_script" mg fa h) : PySem.Challenge.rw_footpath_k60_whole_floors_are_safe.Holds := by
  w_on; o_law
  refine HandSHeadRun.head_any (r := OpenLaw.row PySem.Challenge.rw_footpath_k60_whole_floors_are_safe) (q := view (OpenLaw.row PySem.Challenge.rw_footpath_k60_whole_floors_are_safe).prog [74]) (H := FpH.hk) (ob := FpH.ob) (M := 3000) (loose := FpH.names) (d := HandSHeadRun.topDef (OpenLaw.row PySem.Challenge.rw_footpath_k60_whole_floors_are_safe).prog 74) (kwd := []) FpH.ob_eq
    (by kernel_rfl) (fun s => by kernel_rfl) FpH.run (by kernel_rfl) (by kernel_rfl) (by kernel_rfl) (by rfl) (by first | assumption | decide +kernel) (by decide +kernel) ⟨rfl, rfl, rfl, rfl, rfl, by decide +kernel⟩ ?hw ?hc
  case hw => w_witness2
  case hc =>
    refine LamX.walk_ofTsE (l := PySem.Challenge.rw_footpath_k60_whole_floors_are_safe) (n := 63) (k := 9) (x := "_law_script") (CX := fun _ => L2.CX0) rfl (by decide) (by kernel_rfl) ⟨rfl, by decide, by decide⟩ ?F (fun _ _ _ _ _ z => z)
    intro w mg fa h Y G hmg0
    obtain ⟨K, KX, c⟩ := Y
    have hmg : mg ("law" : PySem.Str) = some (.ref fa) := by
      have e : (HandSHeadRun.topDef (OpenLaw.row PySem.Challenge.rw_footpath_k60_whole_floors_are_safe).prog 74).name = ("law" : PySem.Str) := by kernel_rfl
      rw [← e]
      exact hmg0
    exact ⟨K, KX, F w mg fa h K KX c G hmg⟩
end
set_option maxHeartbeats 4000000
/-! FpM: the mathematics of triangles over rectangles. -/
namespace FpM

structure Pt where
  x : Int
  y : Int
  z : Int
structure Tr where
  a : Pt
  b : Pt
  c : Pt

theorem mul_nn {a b : Int} (h : 0 ≤ a) (k : 0 ≤ b) : 0 ≤ a * b := Int.mul_nonneg h k
theorem can {a b w : Int} (hw : 0 < w) (h : a * w ≤ b * w) : a ≤ b := Int.le_of_mul_le_mul_right h hw
theorem scale {a b w : Int} (hw : 0 ≤ w) (h : a ≤ b) : a * w ≤ b * w := Int.mul_le_mul_of_nonneg_right h hw

/-! ### weights -/
structure Wt where
  p : Int
  q : Int
  r : Int
namespace Wt
def w (l : Wt) : Int := l.p + l.q + l.r
def X (t : Tr) (l : Wt) : Int := l.p * t.a.x + l.q * t.b.x + l.r * t.c.x
def Y (t : Tr) (l : Wt) : Int := l.p * t.a.y + l.q * t.b.y + l.r * t.c.y
def Z (t : Tr) (l : Wt) : Int := l.p * t.a.z + l.q * t.b.z + l.r * t.c.z
end Wt
/-- a point of the triangle (weights l) over the rectangle -/
structure Ov (t : Tr) (x0 z0 x1 z1 : Int) (l : Wt) : Prop where
  p : 0 ≤ l.p
  q : 0 ≤ l.q
  r : 0 ≤ l.r
  w : 0 < l.w
  xl : x0 * l.w ≤ l.X t
  xh : l.X t ≤ x1 * l.w
  zl : z0 * l.w ≤ l.Z t
  zh : l.Z t ≤ z1 * l.w

/-! ### the seven constraints -/
/-- a linear form on weights -/
def ev (g l : Wt) : Int := g.p * l.p + g.q * l.q + g.r * l.r
def cons (t : Tr) (x0 z0 x1 z1 : Int) : List Wt :=
  [⟨1, 0, 0⟩, ⟨0, 1, 0⟩, ⟨0, 0, 1⟩, ⟨t.a.x - x0, t.b.x - x0, t.c.x - x0⟩, ⟨x1 - t.a.x, x1 - t.b.x, x1 - t.c.x⟩,
    ⟨t.a.z - z0, t.b.z - z0, t.c.z - z0⟩, ⟨z1 - t.a.z, z1 - t.b.z, z1 - t.c.z⟩]
theorem ov_cons {t : Tr} {x0 z0 x1 z1 : Int} {l : Wt} : Ov t x0 z0 x1 z1 l ↔ 0 < l.w ∧ ∀ g ∈ cons t x0 z0 x1 z1, 0 ≤ ev g l := by
  constructor
  · rintro ⟨h1, h2, h3, h4, h5, h6, h7, h8⟩
    refine ⟨h4, ?_⟩
    simp only [cons, List.mem_cons, List.not_mem_nil, or_false, forall_eq_or_imp, forall_eq]
    simp only [Wt.w, Wt.X, Wt.Y, Wt.Z, ev] at *
    grind
  · rintro ⟨h4, h⟩
    simp only [cons, List.mem_cons, List.not_mem_nil, or_false, forall_eq_or_imp, forall_eq] at h
    obtain ⟨h1, h2, h3, h5, h6, h7, h8⟩ := h
    simp only [Wt.w, Wt.X, Wt.Y, Wt.Z, ev] at *
    constructor <;> (try simp only [Wt.w, Wt.X, Wt.Y, Wt.Z]) <;> grind

/-- the constraint that is met first, going along d -/
theorem first_met (l d : Wt) : ∀ gs : List Wt, (∀ g ∈ gs, 0 ≤ ev g l) → (∃ g ∈ gs, ev g d < 0) →
    ∃ j ∈ gs, ev j d < 0 ∧ ∀ g ∈ gs, 0 ≤ -(ev j d) * ev g l + ev j l * ev g d
  | [], _, ⟨_, h, _⟩ => nomatch h
  | a :: r, hp, hn => by
    have ha := hp a List.mem_cons_self
    by_cases hr : ∃ g ∈ r, ev g d < 0
    · obtain ⟨j, hj, vj, hm⟩ := first_met l d r (fun g hg => hp g (List.mem_cons_of_mem _ hg)) hr
      have lj := hp j (List.mem_cons_of_mem _ hj)
      by_cases hc : 0 ≤ -(ev j d) * ev a l + ev j l * ev a d
      · refine ⟨j, List.mem_cons_of_mem _ hj, vj, fun g hg => ?_⟩
        rcases List.mem_cons.mp hg with rfl | hg
        · exact hc
        · exact hm g hg
      · have va : ev a d < 0 := by
          apply Classical.byContradiction
          intro hva
          apply hc
          have h1 : 0 ≤ -(ev j d) * ev a l := mul_nn (by omega) ha
          have h2 : 0 ≤ ev j l * ev a d := mul_nn lj (by omega)
          omega
        refine ⟨a, List.mem_cons_self, va, fun g hg => ?_⟩
        rcases List.mem_cons.mp hg with rfl | hg
        · grind
        · have hg' := hm g hg
          have lg := hp g (List.mem_cons_of_mem _ hg)
          by_cases vg : 0 ≤ ev g d
          · have h1 : 0 ≤ -(ev a d) * ev g l := mul_nn (by omega) lg
            have h2 : 0 ≤ ev a l * ev g d := mul_nn ha vg
            omega
          · -- ratios: a before j before g
            have k1 : 0 ≤ (-(ev a d)) * (-(ev j d) * ev g l + ev j l * ev g d) := mul_nn (by omega) hg'
            have k2 : 0 ≤ (-(ev g d)) * (-(-(ev j d) * ev a l + ev j l * ev a d)) := mul_nn (by omega) (by omega)
            have k3 : 0 * (-(ev j d)) ≤ (-(ev a d) * ev g l + ev a l * ev g d) * (-(ev j d)) := by grind
            exact can (by omega) k3
    · refine ⟨a, List.mem_cons_self, ?_, fun g hg => ?_⟩
      · obtain ⟨g, hg, vg⟩ := hn
        rcases List.mem_cons.mp hg with rfl | hg
        · exact vg
        · exact (hr ⟨g, hg, vg⟩).elim
      · have va : ev a d < 0 := by
          obtain ⟨g, hg, vg⟩ := hn
          rcases List.mem_cons.mp hg with rfl | hg
          · exact vg
          · exact (hr ⟨g, hg, vg⟩).elim
        rcases List.mem_cons.mp hg with rfl | hg
        · grind
        · have vg : 0 ≤ ev g d := by
            apply Classical.byContradiction
            intro q
            exact hr ⟨g, hg, by omega⟩
          have h1 : 0 ≤ -(ev a d) * ev g l := mul_nn (by omega) (hp g (List.mem_cons_of_mem _ hg))
          have h2 : 0 ≤ ev a l * ev g d := mul_nn ha vg
          omega

/-- n / e times the weight l plus the direction d -/
def mv (n e : Int) (l d : Wt) : Wt := ⟨n * l.p + e * d.p, n * l.q + e * d.q, n * l.r + e * d.r⟩
theorem ev_mv (g : Wt) (n e : Int) (l d : Wt) : ev g (mv n e l d) = n * ev g l + e * ev g d := by
  simp only [ev, mv]; grind
theorem w_mv (n e : Int) (l d : Wt) : (mv n e l d).w = n * l.w + e * d.w := by
  simp only [Wt.w, mv]; grind
theorem Y_mv (t : Tr) (n e : Int) (l d : Wt) : (mv n e l d).Y t = n * l.Y t + e * d.Y t := by
  simp only [Wt.Y, mv]; grind

/-- from a point over the rectangle along d (the weight stays, the height in the direction s does not fall) to a tight constraint -/
theorem slide {t : Tr} {x0 z0 x1 z1 s : Int} {l d : Wt} (h : Ov t x0 z0 x1 z1 l) (dw : d.w = 0) (dn : d.p ≠ 0 ∨ d.q ≠ 0 ∨ d.r ≠ 0) (dy : 0 ≤ s * d.Y t) :
    ∃ (n e : Int) (j : Wt), 0 < n ∧ 0 ≤ e ∧ j ∈ cons t x0 z0 x1 z1 ∧ ev j d < 0 ∧ Ov t x0 z0 x1 z1 (mv n e l d) ∧ ev j (mv n e l d) = 0 := by
  obtain ⟨hw, hc⟩ := ov_cons.mp h
  have neg : ∃ g ∈ cons t x0 z0 x1 z1, ev g d < 0 := by
    simp only [Wt.w] at dw
    by_cases h1 : d.p < 0
    · exact ⟨⟨1, 0, 0⟩, by simp [cons], by simp only [ev]; omega⟩
    · by_cases h2 : d.q < 0
      · exact ⟨⟨0, 1, 0⟩, by simp [cons], by simp only [ev]; omega⟩
      · exact ⟨⟨0, 0, 1⟩, by simp [cons], by simp only [ev]; omega⟩
  obtain ⟨j, hj, vj, hm⟩ := first_met l d _ hc neg
  have lj := hc j hj
  refine ⟨-(ev j d), ev j l, j, by omega, lj, hj, vj, ov_cons.mpr ⟨?_, fun g hg => ?_⟩, ?_⟩
  · rw [w_mv, dw]
    have : 0 < -(ev j d) * l.w := Int.mul_pos (by omega) hw
    omega
  · rw [ev_mv]
    exact hm g hg
  · rw [ev_mv]
    grind

/-- a corner of what the triangle has over the rectangle: two tight constraints that are independent -/
structure Cor (t : Tr) (x0 z0 x1 z1 : Int) (l : Wt) : Prop where
  ov : Ov t x0 z0 x1 z1 l
  two : ∃ j ∈ cons t x0 z0 x1 z1, ∃ k ∈ cons t x0 z0 x1 z1, ev j l = 0 ∧ ev k l = 0 ∧
    k.p * (j.q - j.r) + k.q * (j.r - j.p) + k.r * (j.p - j.q) ≠ 0

/-- in the direction s (1: up, -1: down) some corner is not lower than a given point -/
theorem corner_beyond {t : Tr} {x0 z0 x1 z1 s : Int} {l : Wt} (h : Ov t x0 z0 x1 z1 l) :
    ∃ m : Wt, Cor t x0 z0 x1 z1 m ∧ s * l.Y t * m.w ≤ s * m.Y t * l.w := by
  -- the first direction
  have d1 : ∃ d : Wt, d.w = 0 ∧ (d.p ≠ 0 ∨ d.q ≠ 0 ∨ d.r ≠ 0) ∧ 0 ≤ s * d.Y t := by
    by_cases q : 0 ≤ s * (⟨1, -1, 0⟩ : Wt).Y t
    · exact ⟨⟨1, -1, 0⟩, by simp [Wt.w], by simp, q⟩
    · refine ⟨⟨-1, 1, 0⟩, by simp [Wt.w], by simp, ?_⟩
      simp only [Wt.Y] at *
      grind
  obtain ⟨d, dw, dn, dy⟩ := d1
  obtain ⟨n, e, j, hn, he, hj, vj, ho, ej⟩ := slide h dw dn dy
  -- the second one, within j's kernel
  have d2 : ∃ f : Wt, f.w = 0 ∧ (f.p ≠ 0 ∨ f.q ≠ 0 ∨ f.r ≠ 0) ∧ 0 ≤ s * f.Y t ∧ ev j f = 0 ∧ ∃ c : Int, f.p = c * (j.q - j.r) ∧ f.q = c * (j.r - j.p) ∧ f.r = c * (j.p - j.q) := by
    have hne : j.q - j.r ≠ 0 ∨ j.r - j.p ≠ 0 ∨ j.p - j.q ≠ 0 := by
      apply Classical.byContradiction
      intro hh
      have e1 : j.q = j.p := by omega
      have e2 : j.r = j.p := by omega
      simp only [ev, Wt.w] at vj dw
      rw [e1, e2] at vj
      have : j.p * d.p + j.p * d.q + j.p * d.r = j.p * (d.p + d.q + d.r) := by grind
      rw [this, dw] at vj
      omega
    by_cases q : 0 ≤ s * (⟨j.q - j.r, j.r - j.p, j.p - j.q⟩ : Wt).Y t
    · exact ⟨⟨j.q - j.r, j.r - j.p, j.p - j.q⟩, by simp only [Wt.w]; omega, hne, q, by simp only [ev]; grind, 1, by simp, by simp, by simp⟩
    · refine ⟨⟨-(j.q - j.r), -(j.r - j.p), -(j.p - j.q)⟩, by simp only [Wt.w]; omega, by simp only; omega, ?_, by simp only [ev]; grind, -1, by simp, by simp, by simp⟩
      simp only [Wt.Y] at *
      grind
  obtain ⟨f, fw, fn, fy, jf, c, c1, c2, c3⟩ := d2
  obtain ⟨n', e', k, hn', he', hk, vk, ho', ek⟩ := slide ho fw fn fy
  refine ⟨_, ⟨ho', j, hj, k, hk, ?_, ek, ?_⟩, ?_⟩
  · rw [ev_mv, ej, jf]
    simp
  · intro hz
    apply Int.lt_irrefl 0
    have : ev k f = c * (k.p * (j.q - j.r) + k.q * (j.r - j.p) + k.r * (j.p - j.q)) := by
      simp only [ev, c1, c2, c3]
      grind
    rw [hz, Int.mul_zero] at this
    omega
  · rw [w_mv, Y_mv, w_mv, Y_mv, dw, fw]
    have k1 : 0 ≤ n' * e * (s * d.Y t) := mul_nn (mul_nn (by omega) he) dy
    have k2 : 0 ≤ e' * (s * f.Y t) := mul_nn he' fy
    have hw := h.w
    have k3 : 0 ≤ (n' * e * (s * d.Y t)) * l.w := mul_nn k1 (by omega)
    have k4 : 0 ≤ (e' * (s * f.Y t)) * l.w := mul_nn k2 (by omega)
    grind
end FpM
namespace FpM
/-! ### the program's candidates -/
def nrm (t : Tr) : Pt :=
  ⟨(t.b.y - t.a.y) * (t.c.z - t.a.z) - (t.b.z - t.a.z) * (t.c.y - t.a.y),
   (t.b.z - t.a.z) * (t.c.x - t.a.x) - (t.b.x - t.a.x) * (t.c.z - t.a.z),
   (t.b.x - t.a.x) * (t.c.y - t.a.y) - (t.b.y - t.a.y) * (t.c.x - t.a.x)⟩
def posi (n d : Int) : Int × Int := if d < 0 then (-n, -d) else (n, d)
/-- the coordinate along an axis (false: x, true: z) -/
def co (ax : Bool) (p : Pt) : Int := if ax then p.z else p.x
def edgeDen (p q : Pt) (ax : Bool) : Int := co ax q - co ax p
def acrossOf (p q : Pt) (ax : Bool) (at_ : Int) : Int × Int :=
  posi (co (!ax) p * edgeDen p q ax + (co (!ax) q - co (!ax) p) * (at_ - co ax p)) (edgeDen p q ax)
def onEdge (p q : Pt) (ax : Bool) (at_ low high : Int) : Option (Int × Int) :=
  if edgeDen p q ax = 0 then none
  else if ¬ (min (co ax p) (co ax q) ≤ at_ ∧ at_ ≤ max (co ax p) (co ax q)) then none
  else if ¬ (low * (acrossOf p q ax at_).2 ≤ (acrossOf p q ax at_).1 ∧ (acrossOf p q ax at_).1 ≤ high * (acrossOf p q ax at_).2) then none
  else some (posi (p.y * edgeDen p q ax + (q.y - p.y) * (at_ - co ax p)) (edgeDen p q ax))
def sideOf (p q : Pt) (x z : Int) : Int := (q.x - p.x) * (z - p.z) - (q.z - p.z) * (x - p.x)
def cornerOf (t : Tr) (x z : Int) : Int × Int :=
  posi (t.a.y * (nrm t).y - (nrm t).x * (x - t.a.x) - (nrm t).z * (z - t.a.z)) (nrm t).y
def Mixed (a b c : Int) : Prop := (a < 0 ∨ b < 0 ∨ c < 0) ∧ (0 < a ∨ 0 < b ∨ 0 < c)
instance (a b c : Int) : Decidable (Mixed a b c) := by unfold Mixed; exact inferInstance
def atCorner (t : Tr) (x z : Int) : Option (Int × Int) :=
  if (nrm t).y = 0 then none
  else if Mixed (sideOf t.a t.b x z) (sideOf t.b t.c x z) (sideOf t.c t.a x z) then none
  else some (cornerOf t x z)
def vertexOf (p : Pt) (x0 z0 x1 z1 : Int) : List (Option (Int × Int)) :=
  if (x0 ≤ p.x ∧ p.x ≤ x1) ∧ (z0 ≤ p.z ∧ p.z ≤ z1) then [some (p.y, 1)] else []
def edgeAll (p q : Pt) (x0 z0 x1 z1 : Int) : List (Option (Int × Int)) :=
  vertexOf p x0 z0 x1 z1 ++ [onEdge p q false x0 z0 z1, onEdge p q false x1 z0 z1] ++ [onEdge p q true z0 x0 x1, onEdge p q true z1 x0 x1]
def rawHeights (t : Tr) (x0 z0 x1 z1 : Int) : List (Option (Int × Int)) :=
  edgeAll t.a t.b x0 z0 x1 z1 ++ edgeAll t.b t.c x0 z0 x1 z1 ++ edgeAll t.c t.a x0 z0 x1 z1 ++
    [atCorner t x0 z0, atCorner t x0 z1] ++ [atCorner t x1 z0, atCorner t x1 z1]
def heightsM (t : Tr) (x0 z0 x1 z1 : Int) : List (Int × Int) := (rawHeights t x0 z0 x1 z1).filterMap id

theorem posi_cases (n d : Int) (hd : d ≠ 0) : ∃ s : Int, (s = 1 ∨ s = -1) ∧ posi n d = (s * n, s * d) ∧ 0 < s * d := by
  unfold posi
  split
  · exact ⟨-1, .inr rfl, by simp, by omega⟩
  · exact ⟨1, .inl rfl, by simp, by omega⟩

/-! ### each candidate is the height of a point -/
def HtAt (t : Tr) (x0 z0 x1 z1 : Int) (h : Int × Int) : Prop := 0 < h.2 ∧ ∃ l, Ov t x0 z0 x1 z1 l ∧ h.1 * l.w = l.Y t * h.2
/-- a triangle turned round -/
def rot (t : Tr) : Tr := ⟨t.b, t.c, t.a⟩
theorem Ov.rot {t : Tr} {x0 z0 x1 z1 : Int} {l : Wt} (h : Ov (rot t) x0 z0 x1 z1 l) : Ov t x0 z0 x1 z1 ⟨l.r, l.p, l.q⟩ := by
  obtain ⟨h1, h2, h3, h4, h5, h6, h7, h8⟩ := h
  simp only [Wt.w, Wt.X, Wt.Y, Wt.Z, FpM.rot] at *
  constructor <;> (try simp only [Wt.w, Wt.X, Wt.Y, Wt.Z]) <;> grind
theorem HtAt.rot {t : Tr} {x0 z0 x1 z1 : Int} {h : Int × Int} (H : HtAt (rot t) x0 z0 x1 z1 h) : HtAt t x0 z0 x1 z1 h := by
  obtain ⟨h0, l, h1, h2⟩ := H
  refine ⟨h0, _, h1.rot, ?_⟩
  simp only [Wt.w, Wt.Y, FpM.rot] at *
  grind

theorem vertex_ok {t : Tr} {x0 z0 x1 z1 : Int} {h : Int × Int} (hm : some h ∈ vertexOf t.a x0 z0 x1 z1) : HtAt t x0 z0 x1 z1 h := by
  unfold vertexOf at hm
  split at hm
  · rename_i hc
    simp only [List.mem_cons, Option.some.injEq, List.not_mem_nil, or_false] at hm
    subst hm
    refine ⟨by simp, ⟨1, 0, 0⟩, ⟨?_, ?_, ?_, ?_, ?_, ?_, ?_, ?_⟩, ?_⟩ <;> simp only [Wt.w, Wt.X, Wt.Y, Wt.Z] <;> omega
  · exact nomatch hm

/-- a point of the edge from the first to the second corner, at a line of the grid -/
theorem edge_ok {t : Tr} {x0 z0 x1 z1 : Int} {h : Int × Int} {ax : Bool} {at_ low high : Int} (hb : if ax then (low = x0 ∧ high = x1 ∧ z0 ≤ at_ ∧ at_ ≤ z1) else (low = z0 ∧ high = z1 ∧ x0 ≤ at_ ∧ at_ ≤ x1))
    (hm : onEdge t.a t.b ax at_ low high = some h) : HtAt t x0 z0 x1 z1 h := by
  unfold onEdge at hm
  split at hm
  · cases hm
  rename_i hd
  split at hm
  · cases hm
  rename_i hr
  split at hm
  · cases hm
  rename_i hl
  have hr := Classical.not_not.mp hr
  have hl := Classical.not_not.mp hl
  have hm := Option.some.inj hm
  unfold acrossOf at hl
  obtain ⟨s, hs, e1, hp⟩ := posi_cases (co (!ax) t.a * edgeDen t.a t.b ax + (co (!ax) t.b - co (!ax) t.a) * (at_ - co ax t.a)) (edgeDen t.a t.b ax) hd
  rw [e1] at hl
  have e2 : posi (t.a.y * edgeDen t.a t.b ax + (t.b.y - t.a.y) * (at_ - co ax t.a)) (edgeDen t.a t.b ax) = (s * (t.a.y * edgeDen t.a t.b ax + (t.b.y - t.a.y) * (at_ - co ax t.a)), s * edgeDen t.a t.b ax) := by
    obtain ⟨s', hs', e1', hp'⟩ := posi_cases (t.a.y * edgeDen t.a t.b ax + (t.b.y - t.a.y) * (at_ - co ax t.a)) (edgeDen t.a t.b ax) hd
    have : s' = s := by
      rcases hs with rfl | rfl <;> rcases hs' with rfl | rfl <;> omega
    rw [e1', this]
  rw [e2] at hm
  subst hm
  simp only at hl ⊢
  have kq : 0 ≤ s * (at_ - co ax t.a) ∧ 0 ≤ s * edgeDen t.a t.b ax - s * (at_ - co ax t.a) := by
    unfold edgeDen at *
    rcases hs with rfl | rfl <;> omega
  refine ⟨hp, ⟨s * edgeDen t.a t.b ax - s * (at_ - co ax t.a), s * (at_ - co ax t.a), 0⟩, ⟨kq.2, kq.1, Int.le_refl _, ?_, ?_, ?_, ?_, ?_⟩, ?_⟩ <;> simp only [Wt.w, Wt.X, Wt.Y, Wt.Z]
  · omega
  all_goals (cases ax <;> simp only [co, edgeDen, Bool.not_false, Bool.not_true, if_true, if_false, Bool.false_eq_true] at * <;> (try (obtain ⟨rfl, rfl, hb1, hb2⟩ := hb)))
  all_goals (try have kk := scale (w := s * (t.b.x - t.a.x)) (by omega) hb1)
  all_goals (try have kk' := scale (w := s * (t.b.x - t.a.x)) (by omega) hb2)
  all_goals (try have kk := scale (w := s * (t.b.z - t.a.z)) (by omega) hb1)
  all_goals (try have kk' := scale (w := s * (t.b.z - t.a.z)) (by omega) hb2)
  all_goals grind

theorem corner_ok {t : Tr} {x0 z0 x1 z1 : Int} {h : Int × Int} {x z : Int} (hx : x0 ≤ x ∧ x ≤ x1) (hz : z0 ≤ z ∧ z ≤ z1) (hm : atCorner t x z = some h) : HtAt t x0 z0 x1 z1 h := by
  unfold atCorner at hm
  split at hm
  · cases hm
  rename_i hd
  split at hm
  · cases hm
  rename_i hs
  have hm := Option.some.inj hm
  have sum : sideOf t.a t.b x z + sideOf t.b t.c x z + sideOf t.c t.a x z = -(nrm t).y := by
    simp only [sideOf, nrm]; grind
  have key : ∀ s : Int, (s = 1 ∨ s = -1) → 0 ≤ s * sideOf t.a t.b x z → 0 ≤ s * sideOf t.b t.c x z → 0 ≤ s * sideOf t.c t.a x z → HtAt t x0 z0 x1 z1 h := by
    intro s hs h1 h2 h3
    unfold cornerOf at hm
    obtain ⟨s', hs', e1, hp⟩ := posi_cases (t.a.y * (nrm t).y - (nrm t).x * (x - t.a.x) - (nrm t).z * (z - t.a.z)) (nrm t).y hd
    rw [e1] at hm
    subst hm
    have es : s' = -s := by rcases hs with rfl | rfl <;> rcases hs' with rfl | rfl <;> omega
    subst es
    have ew : (⟨s * sideOf t.b t.c x z, s * sideOf t.c t.a x z, s * sideOf t.a t.b x z⟩ : Wt).w = -s * (nrm t).y := by
      simp only [Wt.w]; grind
    have eX : (⟨s * sideOf t.b t.c x z, s * sideOf t.c t.a x z, s * sideOf t.a t.b x z⟩ : Wt).X t = x * (-s * (nrm t).y) := by
      simp only [Wt.X, sideOf, nrm]; grind
    have eZ : (⟨s * sideOf t.b t.c x z, s * sideOf t.c t.a x z, s * sideOf t.a t.b x z⟩ : Wt).Z t = z * (-s * (nrm t).y) := by
      simp only [Wt.Z, sideOf, nrm]; grind
    refine ⟨hp, ⟨s * sideOf t.b t.c x z, s * sideOf t.c t.a x z, s * sideOf t.a t.b x z⟩, ⟨h2, h3, h1, ?_, ?_, ?_, ?_, ?_⟩, ?_⟩
    · rw [ew]; exact hp
    · rw [ew, eX]; exact scale (by omega) hx.1
    · rw [ew, eX]; exact scale (by omega) hx.2
    · rw [ew, eZ]; exact scale (by omega) hz.1
    · rw [ew, eZ]; exact scale (by omega) hz.2
    · rw [ew]
      simp only [Wt.Y, sideOf, nrm]; grind
  unfold Mixed at hs
  by_cases q : 0 ≤ sideOf t.a t.b x z ∧ 0 ≤ sideOf t.b t.c x z ∧ 0 ≤ sideOf t.c t.a x z
  · exact key 1 (.inl rfl) (by omega) (by omega) (by omega)
  · exact key (-1) (.inr rfl) (by omega) (by omega) (by omega)

theorem heights_sound {t : Tr} {x0 z0 x1 z1 : Int} (hx : x0 ≤ x1) (hz : z0 ≤ z1) {h : Int × Int} (hm : h ∈ heightsM t x0 z0 x1 z1) : HtAt t x0 z0 x1 z1 h := by
  have edge : ∀ t' : Tr, some h ∈ edgeAll t'.a t'.b x0 z0 x1 z1 → HtAt t' x0 z0 x1 z1 h := by
    intro t' q
    unfold edgeAll at q
    simp only [List.mem_append, List.mem_cons, List.not_mem_nil, or_false] at q
    rcases q with (q | q | q) | q | q
    · exact vertex_ok q
    · exact edge_ok (ax := false) (by simp; omega) q.symm
    · exact edge_ok (ax := false) (by simp; omega) q.symm
    · exact edge_ok (ax := true) (by simp; omega) q.symm
    · exact edge_ok (ax := true) (by simp; omega) q.symm
  unfold heightsM at hm
  have hm : some h ∈ rawHeights t x0 z0 x1 z1 := by simpa using hm
  unfold rawHeights at hm
  simp only [List.mem_append, List.mem_cons, List.not_mem_nil, or_false] at hm
  rcases hm with (((q | q) | q) | q | q) | q | q
  · exact edge t q
  · exact (edge (rot t) q).rot
  · exact (edge (rot (rot t)) q).rot.rot
  · exact corner_ok ⟨Int.le_refl _, hx⟩ ⟨Int.le_refl _, hz⟩ q.symm
  · exact corner_ok ⟨Int.le_refl _, hx⟩ ⟨hz, Int.le_refl _⟩ q.symm
  · exact corner_ok ⟨hx, Int.le_refl _⟩ ⟨Int.le_refl _, hz⟩ q.symm
  · exact corner_ok ⟨hx, Int.le_refl _⟩ ⟨hz, Int.le_refl _⟩ q.symm

/-! ### each corner is a candidate -/
def HasHt (hs : List (Option (Int × Int))) (y w : Int) : Prop := ∃ h, some h ∈ hs ∧ 0 < h.2 ∧ h.1 * w = y * h.2
theorem onEdge_has {p q : Pt} {ax : Bool} {at_ low high u v : Int} (hu : 0 ≤ u) (hv : 0 ≤ v) (hw : 0 < u + v) (he : u * co ax p + v * co ax q = at_ * (u + v)) (hd : edgeDen p q ax ≠ 0)
    (hl : low * (u + v) ≤ u * co (!ax) p + v * co (!ax) q) (hh : u * co (!ax) p + v * co (!ax) q ≤ high * (u + v)) :
    ∃ h, onEdge p q ax at_ low high = some h ∧ 0 < h.2 ∧ h.1 * (u + v) = (u * p.y + v * q.y) * h.2 := by
  have way : (at_ - co ax p) * (u + v) = v * edgeDen p q ax := by unfold edgeDen; grind
  obtain ⟨s, hs, e1, hp⟩ := posi_cases (co (!ax) p * edgeDen p q ax + (co (!ax) q - co (!ax) p) * (at_ - co ax p)) (edgeDen p q ax) hd
  obtain ⟨s', hs', e2, hp'⟩ := posi_cases (p.y * edgeDen p q ax + (q.y - p.y) * (at_ - co ax p)) (edgeDen p q ax) hd
  refine ⟨posi (p.y * edgeDen p q ax + (q.y - p.y) * (at_ - co ax p)) (edgeDen p q ax), ?_, ?_⟩
  · unfold onEdge
    rw [if_neg hd, if_neg (Classical.not_not.mpr ?_), if_neg (Classical.not_not.mpr ?_)]
    · unfold acrossOf
      rw [e1]
      simp only
      have ea : (s * (co (!ax) p * edgeDen p q ax + (co (!ax) q - co (!ax) p) * (at_ - co ax p))) * (u + v) = (u * co (!ax) p + v * co (!ax) q) * (s * edgeDen p q ax) := by grind
      have k1 := scale (w := s * edgeDen p q ax) (by omega) hl
      have k2 := scale (w := s * edgeDen p q ax) (by omega) hh
      exact ⟨can hw (by grind), can hw (by grind)⟩
    · constructor
      · apply can hw
        have k1 : (min (co ax p) (co ax q)) * u ≤ co ax p * u := scale hu (Int.min_le_left _ _)
        have k2 : (min (co ax p) (co ax q)) * v ≤ co ax q * v := scale hv (Int.min_le_right _ _)
        grind
      · apply can hw
        have k1 : co ax p * u ≤ (max (co ax p) (co ax q)) * u := scale hu (Int.le_max_left _ _)
        have k2 : co ax q * v ≤ (max (co ax p) (co ax q)) * v := scale hv (Int.le_max_right _ _)
        grind
  · rw [e2]
    exact ⟨hp', by simp only; grind⟩

theorem edge_has {p q : Pt} {x0 z0 x1 z1 u v : Int} (hu : 0 ≤ u) (hv : 0 ≤ v) (hw : 0 < u + v) (hx : x0 * (u + v) ≤ u * p.x + v * q.x ∧ u * p.x + v * q.x ≤ x1 * (u + v)) (hz : z0 * (u + v) ≤ u * p.z + v * q.z ∧ u * p.z + v * q.z ≤ z1 * (u + v))
    (h : (edgeDen p q false ≠ 0 ∧ (u * p.x + v * q.x = x0 * (u + v) ∨ u * p.x + v * q.x = x1 * (u + v))) ∨ (edgeDen p q true ≠ 0 ∧ (u * p.z + v * q.z = z0 * (u + v) ∨ u * p.z + v * q.z = z1 * (u + v)))) :
    HasHt (edgeAll p q x0 z0 x1 z1) (u * p.y + v * q.y) (u + v) := by
  have out : ∀ o : Option (Int × Int), o ∈ edgeAll p q x0 z0 x1 z1 → (∃ h, o = some h ∧ 0 < h.2 ∧ h.1 * (u + v) = (u * p.y + v * q.y) * h.2) → HasHt (edgeAll p q x0 z0 x1 z1) (u * p.y + v * q.y) (u + v) := by
    rintro o ho ⟨h, rfl, a, b⟩
    exact ⟨h, ho, a, b⟩
  rcases h with ⟨hd, he | he⟩ | ⟨hd, he | he⟩
  · exact out (onEdge p q false x0 z0 z1) (by simp [edgeAll]) (onEdge_has hu hv hw (by simpa [co] using he) hd (by simpa [co] using hz.1) (by simpa [co] using hz.2))
  · exact out (onEdge p q false x1 z0 z1) (by simp [edgeAll]) (onEdge_has hu hv hw (by simpa [co] using he) hd (by simpa [co] using hz.1) (by simpa [co] using hz.2))
  · exact out (onEdge p q true z0 x0 x1) (by simp [edgeAll]) (onEdge_has hu hv hw (by simpa [co] using he) hd (by simpa [co] using hx.1) (by simpa [co] using hx.2))
  · exact out (onEdge p q true z1 x0 x1) (by simp [edgeAll]) (onEdge_has hu hv hw (by simpa [co] using he) hd (by simpa [co] using hx.1) (by simpa [co] using hx.2))
theorem vertex_has {p q : Pt} {x0 z0 x1 z1 w : Int} (hw : 0 < w) (hx : x0 * w ≤ w * p.x ∧ w * p.x ≤ x1 * w) (hz : z0 * w ≤ w * p.z ∧ w * p.z ≤ z1 * w) : HasHt (edgeAll p q x0 z0 x1 z1) (w * p.y) w := by
  refine ⟨(p.y, 1), ?_, by simp, by simp [Int.mul_comm]⟩
  unfold edgeAll vertexOf
  rw [if_pos ⟨⟨can hw (by grind), can hw (by grind)⟩, can hw (by grind), can hw (by grind)⟩]
  simp
theorem sgn {s a w n r : Int} (hw : 0 < w) (e : a * w = -n * r) (hp : 0 < s * n) (hr : 0 ≤ r) : 0 ≤ -s * a := by
  have k : 0 ≤ s * n * r := mul_nn (Int.le_of_lt hp) hr
  have k2 : -s * a * w = s * n * r := by grind
  exact can hw (by omega)
theorem plane_at {t : Tr} {x z : Int} {l : Wt} (ex : l.X t = x * l.w) (ez : l.Z t = z * l.w) :
    (t.a.y * (nrm t).y - (nrm t).x * (x - t.a.x) - (nrm t).z * (z - t.a.z)) * l.w = l.Y t * (nrm t).y := by
  have e : (t.a.y * (nrm t).y - (nrm t).x * (x - t.a.x) - (nrm t).z * (z - t.a.z)) * l.w
      = t.a.y * (nrm t).y * l.w - (nrm t).x * (x * l.w - t.a.x * l.w) - (nrm t).z * (z * l.w - t.a.z * l.w) := by grind
  rw [e, ← ex, ← ez]
  clear e ex ez
  simp only [nrm, Wt.w, Wt.X, Wt.Y, Wt.Z]
  grind
theorem atCorner_has {t : Tr} {x z : Int} {l : Wt} (hp : 0 ≤ l.p) (hq : 0 ≤ l.q) (hr : 0 ≤ l.r) (hw : 0 < l.w) (ex : l.X t = x * l.w) (ez : l.Z t = z * l.w) (hn : (nrm t).y ≠ 0) :
    ∃ h, atCorner t x z = some h ∧ 0 < h.2 ∧ h.1 * l.w = l.Y t * h.2 := by
  have s0 : sideOf t.a t.b x z * l.w = -(nrm t).y * l.r := by
    simp only [sideOf, nrm, Wt.w, Wt.X, Wt.Z] at *; grind
  have s1 : sideOf t.b t.c x z * l.w = -(nrm t).y * l.p := by
    simp only [sideOf, nrm, Wt.w, Wt.X, Wt.Z] at *; grind
  have s2 : sideOf t.c t.a x z * l.w = -(nrm t).y * l.q := by
    simp only [sideOf, nrm, Wt.w, Wt.X, Wt.Z] at *; grind
  obtain ⟨s, hs, e1, hp'⟩ := posi_cases (t.a.y * (nrm t).y - (nrm t).x * (x - t.a.x) - (nrm t).z * (z - t.a.z)) (nrm t).y hn
  have k0 : 0 ≤ -s * sideOf t.a t.b x z := sgn hw s0 hp' hr
  have k1 : 0 ≤ -s * sideOf t.b t.c x z := sgn hw s1 hp' hp
  have k2 : 0 ≤ -s * sideOf t.c t.a x z := sgn hw s2 hp' hq
  refine ⟨cornerOf t x z, ?_, ?_⟩
  · unfold atCorner
    rw [if_neg hn, if_neg ?_]
    unfold Mixed
    rcases hs with rfl | rfl <;> omega
  · unfold cornerOf
    rw [e1]
    refine ⟨hp', ?_⟩
    have := plane_at ex ez
    show s * _ * l.w = l.Y t * (s * (nrm t).y)
    rw [Int.mul_assoc, this]
    clear this e1
    grind
theorem HasHt.mono {hs hs' : List (Option (Int × Int))} {y w : Int} (h : HasHt hs y w) (k : ∀ o ∈ hs, o ∈ hs') : HasHt hs' y w := by
  obtain ⟨o, h1, h2⟩ := h
  exact ⟨o, k _ h1, h2⟩
theorem cor_has {t : Tr} {x0 z0 x1 z1 : Int} {l : Wt} (hx : x0 < x1) (hz : z0 < z1) (h : Cor t x0 z0 x1 z1 l) : HasHt (rawHeights t x0 z0 x1 z1) (l.Y t) l.w := by
  obtain ⟨⟨p, q, r, w, xl, xh, zl, zh⟩, j, hj, k, hk, ej, ek, hd⟩ := h
  have E0 : ∀ o ∈ edgeAll t.a t.b x0 z0 x1 z1, o ∈ rawHeights t x0 z0 x1 z1 := by intro o ho; simp [rawHeights, ho]
  have E1 : ∀ o ∈ edgeAll t.b t.c x0 z0 x1 z1, o ∈ rawHeights t x0 z0 x1 z1 := by intro o ho; simp [rawHeights, ho]
  have E2 : ∀ o ∈ edgeAll t.c t.a x0 z0 x1 z1, o ∈ rawHeights t x0 z0 x1 z1 := by intro o ho; simp [rawHeights, ho]
  have corner : ∀ x z, (x = x0 ∨ x = x1) → (z = z0 ∨ z = z1) → l.X t = x * l.w → l.Z t = z * l.w → (nrm t).y ≠ 0 → HasHt (rawHeights t x0 z0 x1 z1) (l.Y t) l.w := by
    intro x z kx kz ex ez hn
    obtain ⟨h, e, a, b⟩ := atCorner_has p q r w ex ez hn
    refine ⟨h, ?_, a, b⟩
    rw [← e]
    rcases kx with rfl | rfl <;> rcases kz with rfl | rfl <;> simp [rawHeights]
  have vb : l.p = 0 → l.q = 0 → HasHt (rawHeights t x0 z0 x1 z1) (l.Y t) l.w := by
    intro a b
    have e : l.w = l.r := by simp only [Wt.w]; omega
    have eY : l.Y t = l.r * t.c.y := by simp only [Wt.Y]; grind
    rw [e, eY]
    simp only [Wt.X, Wt.Z, a, b, e] at *
    exact (vertex_has (by omega) (by grind) (by grind)).mono E2
  have va : l.q = 0 → l.r = 0 → HasHt (rawHeights t x0 z0 x1 z1) (l.Y t) l.w := by
    intro a b
    have e : l.w = l.p := by simp only [Wt.w]; omega
    have eY : l.Y t = l.p * t.a.y := by simp only [Wt.Y]; grind
    rw [e, eY]
    simp only [Wt.X, Wt.Z, a, b, e] at *
    exact (vertex_has (by omega) (by grind) (by grind)).mono E0
  have vc : l.p = 0 → l.r = 0 → HasHt (rawHeights t x0 z0 x1 z1) (l.Y t) l.w := by
    intro a b
    have e : l.w = l.q := by simp only [Wt.w]; omega
    have eY : l.Y t = l.q * t.b.y := by simp only [Wt.Y]; grind
    rw [e, eY]
    simp only [Wt.X, Wt.Z, a, b, e] at *
    exact (vertex_has (by omega) (by grind) (by grind)).mono E1
  have eab : l.r = 0 → ((t.b.x - t.a.x ≠ 0 ∧ (l.X t = x0 * l.w ∨ l.X t = x1 * l.w)) ∨ (t.b.z - t.a.z ≠ 0 ∧ (l.Z t = z0 * l.w ∨ l.Z t = z1 * l.w))) → HasHt (rawHeights t x0 z0 x1 z1) (l.Y t) l.w := by
    intro a b
    have e : l.w = l.p + l.q := by simp only [Wt.w]; omega
    have eY : l.Y t = l.p * t.a.y + l.q * t.b.y := by simp only [Wt.Y]; grind
    have eX : l.X t = l.p * t.a.x + l.q * t.b.x := by simp only [Wt.X]; grind
    have eZ : l.Z t = l.p * t.a.z + l.q * t.b.z := by simp only [Wt.Z]; grind
    rw [e, eX, eZ] at b
    rw [e, eX] at xl xh
    rw [e, eZ] at zl zh
    rw [e, eY]
    exact (edge_has p q (by omega) ⟨xl, xh⟩ ⟨zl, zh⟩ b).mono E0
  have ebc : l.p = 0 → ((t.c.x - t.b.x ≠ 0 ∧ (l.X t = x0 * l.w ∨ l.X t = x1 * l.w)) ∨ (t.c.z - t.b.z ≠ 0 ∧ (l.Z t = z0 * l.w ∨ l.Z t = z1 * l.w))) → HasHt (rawHeights t x0 z0 x1 z1) (l.Y t) l.w := by
    intro a b
    have e : l.w = l.q + l.r := by simp only [Wt.w]; omega
    have eY : l.Y t = l.q * t.b.y + l.r * t.c.y := by simp only [Wt.Y]; grind
    have eX : l.X t = l.q * t.b.x + l.r * t.c.x := by simp only [Wt.X]; grind
    have eZ : l.Z t = l.q * t.b.z + l.r * t.c.z := by simp only [Wt.Z]; grind
    rw [e, eX, eZ] at b
    rw [e, eX] at xl xh
    rw [e, eZ] at zl zh
    rw [e, eY]
    exact (edge_has q r (by omega) ⟨xl, xh⟩ ⟨zl, zh⟩ b).mono E1
  have eca : l.q = 0 → ((t.a.x - t.c.x ≠ 0 ∧ (l.X t = x0 * l.w ∨ l.X t = x1 * l.w)) ∨ (t.a.z - t.c.z ≠ 0 ∧ (l.Z t = z0 * l.w ∨ l.Z t = z1 * l.w))) → HasHt (rawHeights t x0 z0 x1 z1) (l.Y t) l.w := by
    intro a b
    have e : l.w = l.r + l.p := by simp only [Wt.w]; omega
    have eY : l.Y t = l.r * t.c.y + l.p * t.a.y := by simp only [Wt.Y]; grind
    have eX : l.X t = l.r * t.c.x + l.p * t.a.x := by simp only [Wt.X]; grind
    have eZ : l.Z t = l.r * t.c.z + l.p * t.a.z := by simp only [Wt.Z]; grind
    rw [e, eX, eZ] at b
    rw [e, eX] at xl xh
    rw [e, eZ] at zl zh
    rw [e, eY]
    exact (edge_has r p (by omega) ⟨xl, xh⟩ ⟨zl, zh⟩ b).mono E2
  have t0 : ∀ g : Wt, ev g l = 0 → g = ⟨t.a.x - x0, t.b.x - x0, t.c.x - x0⟩ → l.X t = x0 * l.w := by
    rintro g h rfl; simp only [ev, Wt.X, Wt.w] at *; grind
  have t1 : ∀ g : Wt, ev g l = 0 → g = ⟨x1 - t.a.x, x1 - t.b.x, x1 - t.c.x⟩ → l.X t = x1 * l.w := by
    rintro g h rfl; simp only [ev, Wt.X, Wt.w] at *; grind
  have t2 : ∀ g : Wt, ev g l = 0 → g = ⟨t.a.z - z0, t.b.z - z0, t.c.z - z0⟩ → l.Z t = z0 * l.w := by
    rintro g h rfl; simp only [ev, Wt.Z, Wt.w] at *; grind
  have t3 : ∀ g : Wt, ev g l = 0 → g = ⟨z1 - t.a.z, z1 - t.b.z, z1 - t.c.z⟩ → l.Z t = z1 * l.w := by
    rintro g h rfl; simp only [ev, Wt.Z, Wt.w] at *; grind
  have p0 : ∀ g : Wt, ev g l = 0 → g = ⟨1, 0, 0⟩ → l.p = 0 := by rintro g h rfl; simp only [ev] at h; omega
  have p1 : ∀ g : Wt, ev g l = 0 → g = ⟨0, 1, 0⟩ → l.q = 0 := by rintro g h rfl; simp only [ev] at h; omega
  have p2 : ∀ g : Wt, ev g l = 0 → g = ⟨0, 0, 1⟩ → l.r = 0 := by rintro g h rfl; simp only [ev] at h; omega
  simp only [cons, List.mem_cons, List.not_mem_nil, or_false] at hj hk
  rcases hj with rfl | rfl | rfl | rfl | rfl | rfl | rfl
  · rcases hk with rfl | rfl | rfl | rfl | rfl | rfl | rfl <;> simp only at hd
    · exact absurd (by grind) hd
    · exact vb (p0 _ ej rfl) (p1 _ ek rfl)
    · exact vc (p0 _ ej rfl) (p2 _ ek rfl)
    · exact ebc (p0 _ ej rfl) (.inl ⟨by omega, .inl (t0 _ ek rfl)⟩)
    · exact ebc (p0 _ ej rfl) (.inl ⟨by omega, .inr (t1 _ ek rfl)⟩)
    · exact ebc (p0 _ ej rfl) (.inr ⟨by omega, .inl (t2 _ ek rfl)⟩)
    · exact ebc (p0 _ ej rfl) (.inr ⟨by omega, .inr (t3 _ ek rfl)⟩)
  · rcases hk with rfl | rfl | rfl | rfl | rfl | rfl | rfl <;> simp only at hd
    · exact vb (p0 _ ek rfl) (p1 _ ej rfl)
    · exact absurd (by grind) hd
    · exact va (p1 _ ej rfl) (p2 _ ek rfl)
    · exact eca (p1 _ ej rfl) (.inl ⟨by omega, .inl (t0 _ ek rfl)⟩)
    · exact eca (p1 _ ej rfl) (.inl ⟨by omega, .inr (t1 _ ek rfl)⟩)
    · exact eca (p1 _ ej rfl) (.inr ⟨by omega, .inl (t2 _ ek rfl)⟩)
    · exact eca (p1 _ ej rfl) (.inr ⟨by omega, .inr (t3 _ ek rfl)⟩)
  · rcases hk with rfl | rfl | rfl | rfl | rfl | rfl | rfl <;> simp only at hd
    · exact vc (p0 _ ek rfl) (p2 _ ej rfl)
    · exact va (p1 _ ek rfl) (p2 _ ej rfl)
    · exact absurd (by grind) hd
    · exact eab (p2 _ ej rfl) (.inl ⟨by omega, .inl (t0 _ ek rfl)⟩)
    · exact eab (p2 _ ej rfl) (.inl ⟨by omega, .inr (t1 _ ek rfl)⟩)
    · exact eab (p2 _ ej rfl) (.inr ⟨by omega, .inl (t2 _ ek rfl)⟩)
    · exact eab (p2 _ ej rfl) (.inr ⟨by omega, .inr (t3 _ ek rfl)⟩)
  · rcases hk with rfl | rfl | rfl | rfl | rfl | rfl | rfl <;> simp only at hd
    · exact ebc (p0 _ ek rfl) (.inl ⟨by omega, .inl (t0 _ ej rfl)⟩)
    · exact eca (p1 _ ek rfl) (.inl ⟨by omega, .inl (t0 _ ej rfl)⟩)
    · exact eab (p2 _ ek rfl) (.inl ⟨by omega, .inl (t0 _ ej rfl)⟩)
    · exact absurd (by grind) hd
    · exact absurd (by grind) hd
    · exact corner x0 z0 (.inl rfl) (.inl rfl) (t0 _ ej rfl) (t2 _ ek rfl) (by simp only [nrm]; grind)
    · exact corner x0 z1 (.inl rfl) (.inr rfl) (t0 _ ej rfl) (t3 _ ek rfl) (by simp only [nrm]; grind)
  · rcases hk with rfl | rfl | rfl | rfl | rfl | rfl | rfl <;> simp only at hd
    · exact ebc (p0 _ ek rfl) (.inl ⟨by omega, .inr (t1 _ ej rfl)⟩)
    · exact eca (p1 _ ek rfl) (.inl ⟨by omega, .inr (t1 _ ej rfl)⟩)
    · exact eab (p2 _ ek rfl) (.inl ⟨by omega, .inr (t1 _ ej rfl)⟩)
    · exact absurd (by grind) hd
    · exact absurd (by grind) hd
    · exact corner x1 z0 (.inr rfl) (.inl rfl) (t1 _ ej rfl) (t2 _ ek rfl) (by simp only [nrm]; grind)
    · exact corner x1 z1 (.inr rfl) (.inr rfl) (t1 _ ej rfl) (t3 _ ek rfl) (by simp only [nrm]; grind)
  · rcases hk with rfl | rfl | rfl | rfl | rfl | rfl | rfl <;> simp only at hd
    · exact ebc (p0 _ ek rfl) (.inr ⟨by omega, .inl (t2 _ ej rfl)⟩)
    · exact eca (p1 _ ek rfl) (.inr ⟨by omega, .inl (t2 _ ej rfl)⟩)
    · exact eab (p2 _ ek rfl) (.inr ⟨by omega, .inl (t2 _ ej rfl)⟩)
    · exact corner x0 z0 (.inl rfl) (.inl rfl) (t0 _ ek rfl) (t2 _ ej rfl) (by simp only [nrm]; grind)
    · exact corner x1 z0 (.inr rfl) (.inl rfl) (t1 _ ek rfl) (t2 _ ej rfl) (by simp only [nrm]; grind)
    · exact absurd (by grind) hd
    · exact absurd (by grind) hd
  · rcases hk with rfl | rfl | rfl | rfl | rfl | rfl | rfl <;> simp only at hd
    · exact ebc (p0 _ ek rfl) (.inr ⟨by omega, .inr (t3 _ ej rfl)⟩)
    · exact eca (p1 _ ek rfl) (.inr ⟨by omega, .inr (t3 _ ej rfl)⟩)
    · exact eab (p2 _ ek rfl) (.inr ⟨by omega, .inr (t3 _ ej rfl)⟩)
    · exact corner x0 z1 (.inl rfl) (.inr rfl) (t0 _ ek rfl) (t3 _ ej rfl) (by simp only [nrm]; grind)
    · exact corner x1 z1 (.inr rfl) (.inr rfl) (t1 _ ek rfl) (t3 _ ej rfl) (by simp only [nrm]; grind)
    · exact absurd (by grind) hd
    · exact absurd (by grind) hd

theorem turn_ineq {y w h1 h2 ym wm : Int} (hw : 0 < wm) (h0 : 0 < h2) (hl : 0 < w) (h3 : h1 * wm = ym * h2) : (y * wm ≤ ym * w → y * h2 ≤ h1 * w) ∧ (ym * w ≤ y * wm → h1 * w ≤ y * h2) := by
  have e1 : y * h2 * wm = (y * wm) * h2 := by grind
  have e2 : h1 * w * wm = (ym * w) * h2 := by
    have : h1 * w * wm = (h1 * wm) * w := by grind
    rw [this, h3]
    grind
  constructor
  · intro k
    have := scale (w := h2) (by omega) k
    exact can hw (by rw [e1, e2]; exact this)
  · intro k
    have := scale (w := h2) (by omega) k
    exact can hw (by rw [e1, e2]; exact this)
/-- every point over the rectangle lies between two candidates -/
theorem heights_complete {t : Tr} {x0 z0 x1 z1 : Int} {l : Wt} (hx : x0 < x1) (hz : z0 < z1) (h : Ov t x0 z0 x1 z1 l) :
    (∃ h ∈ heightsM t x0 z0 x1 z1, l.Y t * h.2 ≤ h.1 * l.w) ∧ ∃ h ∈ heightsM t x0 z0 x1 z1, h.1 * l.w ≤ l.Y t * h.2 := by
  constructor
  · obtain ⟨m, hm, k⟩ := corner_beyond (s := 1) h
    obtain ⟨g, h1, h2, h3⟩ := cor_has hx hz hm
    exact ⟨g, by simpa [heightsM] using h1, (turn_ineq hm.ov.w h2 h.w h3).1 (by simpa using k)⟩
  · obtain ⟨m, hm, k⟩ := corner_beyond (s := -1) h
    obtain ⟨g, h1, h2, h3⟩ := cor_has hx hz hm
    refine ⟨g, by simpa [heightsM] using h1, (turn_ineq hm.ov.w h2 h.w h3).2 ?_⟩
    have e1 : -1 * l.Y t * m.w = -(l.Y t * m.w) := by grind
    have e2 : -1 * m.Y t * l.w = -(m.Y t * l.w) := by grind
    omega
end FpM
namespace FpM
/-! ### the law's clipping: points with a weight -/
structure V4 where
  x : Int
  y : Int
  z : Int
  w : Int
deriving DecidableEq
/-- a linear form on points with a weight -/
structure Lf where
  x : Int
  y : Int
  z : Int
  w : Int
def Lf.on (g : Lf) (v : V4) : Int := g.x * v.x + g.y * v.y + g.z * v.z + g.w * v.w
/-- the mixture of two points -/
def mix (a : Int) (u : V4) (b : Int) (v : V4) : V4 := ⟨u.x * a + v.x * b, u.y * a + v.y * b, u.z * a + v.z * b, u.w * a + v.w * b⟩
theorem on_mix (g : Lf) (a : Int) (u : V4) (b : Int) (v : V4) : g.on (mix a u b v) = g.on u * a + g.on v * b := by
  simp only [Lf.on, mix]; grind
def absI (i : Int) : Int := if i < 0 then -i else i
def cutG (g : Lf) (u v : V4) : V4 := mix (absI (g.on v)) u (absI (g.on u)) v
def Crosses (g : Lf) (u v : V4) : Prop := (0 < g.on u ∧ g.on v < 0) ∨ (g.on u < 0 ∧ 0 < g.on v)
instance (g : Lf) (u v : V4) : Decidable (Crosses g u v) := by unfold Crosses; exact inferInstance
def piece (g : Lf) (u v : V4) : List V4 := (if Crosses g u v then [cutG g u v] else []) ++ (if g.on v ≤ 0 then [v] else [])
/-- the points behind a point -/
def pairs {α : Type} : α → List α → List (α × α)
  | _, [] => []
  | p, v :: r => (p, v) :: pairs v r
theorem pairs_length {α : Type} : ∀ (p : α) (l : List α), (pairs p l).length = l.length
  | _, [] => rfl
  | p, v :: r => by simp [pairs, pairs_length v r]
theorem pairs_get {α : Type} : ∀ (p : α) (l : List α) (k : Nat) (v : α), l[k]? = some v → ∃ u, (pairs p l)[k]? = some (u, v) ∧ (if k = 0 then u = p else l[k - 1]? = some u)
  | p, [], k, v, h => by simp at h
  | p, a :: r, 0, v, h => by
    simp at h
    subst h
    exact ⟨p, rfl, rfl⟩
  | p, a :: r, k + 1, v, h => by
    have h' : r[k]? = some v := by simpa using h
    obtain ⟨u, e1, e2⟩ := pairs_get a r k v h'
    refine ⟨u, by simpa [pairs] using e1, ?_⟩
    rw [if_neg (Nat.succ_ne_zero k)]
    by_cases hk : k = 0
    · subst hk
      rw [if_pos rfl] at e2
      subst e2
      rfl
    · rw [if_neg hk] at e2
      obtain ⟨m, rfl⟩ : ∃ m, k = m + 1 := ⟨k - 1, by omega⟩
      simpa using e2
def clipP (g : Lf) (ps : List (V4 × V4)) : List V4 := ps.flatMap fun q => piece g q.1 q.2
def clipM (g : Lf) (s : List V4) : List V4 := match s.getLast? with
  | none => []
  | some l => clipP g (pairs l s)

/-! ### clipping is sound -/
theorem absI_pos {i : Int} (h : i ≠ 0) : 0 < absI i := by unfold absI; split <;> omega
theorem cut_on {g : Lf} {u v : V4} (h : Crosses g u v) : g.on (cutG g u v) = 0 := by
  unfold cutG
  rw [on_mix]
  unfold absI
  rcases h with ⟨h1, h2⟩ | ⟨h1, h2⟩
  · rw [if_pos h2, if_neg (by omega)]; grind
  · rw [if_neg (by omega), if_pos h1]; grind
theorem piece_mem {g : Lf} {u v a : V4} (h : a ∈ piece g u v) : (Crosses g u v ∧ a = cutG g u v) ∨ (g.on v ≤ 0 ∧ a = v) := by
  unfold piece at h
  rcases List.mem_append.mp h with h | h
  · split at h
    · rename_i c
      exact .inl ⟨c, by simpa using h⟩
    · simp at h
  · split at h
    · rename_i c
      exact .inr ⟨c, by simpa using h⟩
    · simp at h
theorem pairs_mem {α : Type} : ∀ {p : α} {l : List α} {q : α × α}, q ∈ pairs p l → (q.1 = p ∨ q.1 ∈ l) ∧ q.2 ∈ l
  | _, [], _, h => by simp [pairs] at h
  | p, a :: r, q, h => by
    rcases List.mem_cons.mp h with rfl | h
    · exact ⟨.inl rfl, List.mem_cons_self⟩
    · obtain ⟨h1, h2⟩ := pairs_mem h
      refine ⟨?_, List.mem_cons_of_mem _ h2⟩
      rcases h1 with rfl | h1
      · exact .inr List.mem_cons_self
      · exact .inr (List.mem_cons_of_mem _ h1)
theorem clip_mem {g : Lf} {s : List V4} {a : V4} (h : a ∈ clipM g s) : ∃ u ∈ s, ∃ v ∈ s, (Crosses g u v ∧ a = cutG g u v) ∨ (g.on v ≤ 0 ∧ a = v) := by
  unfold clipM at h
  split at h
  · simp at h
  · rename_i l hl
    unfold clipP at h
    obtain ⟨q, hq, ha⟩ := List.mem_flatMap.mp h
    obtain ⟨h1, h2⟩ := pairs_mem hq
    refine ⟨q.1, ?_, q.2, h2, piece_mem ha⟩
    rcases h1 with e | h1
    · rw [e]; exact List.mem_of_getLast? hl
    · exact h1
/-- a property that positive mixtures keep -/
theorem clip_keeps {g : Lf} {s : List V4} {P : V4 → Prop} (hP : ∀ u v a b, P u → P v → 0 < a → 0 < b → P (mix a u b v)) (h : ∀ v ∈ s, P v) : ∀ v ∈ clipM g s, P v := fun a ha => by
  obtain ⟨u, hu, v, hv, hc⟩ := clip_mem ha
  rcases hc with ⟨c, rfl⟩ | ⟨_, rfl⟩
  · unfold cutG
    have n1 : g.on v ≠ 0 := by rcases c with c | c <;> omega
    have n2 : g.on u ≠ 0 := by rcases c with c | c <;> omega
    exact hP _ _ _ _ (h u hu) (h v hv) (absI_pos n1) (absI_pos n2)
  · exact h _ hv
theorem clip_on {g : Lf} {s : List V4} : ∀ v ∈ clipM g s, g.on v ≤ 0 := fun a ha => by
  obtain ⟨u, hu, v, hv, hc⟩ := clip_mem ha
  rcases hc with ⟨c, rfl⟩ | ⟨h, rfl⟩
  · exact Int.le_of_eq (cut_on c)
  · exact h

/-! ### around a polygon: at most two changes of sign -/
/-- changes along a way -/
def ch : Bool → List Bool → Nat
  | _, [] => 0
  | p, x :: r => (if p = x then 0 else 1) + ch x r
/-- changes from p along l to q -/
def cyc (s : List Bool) : Nat := match s.getLast? with
  | none => 0
  | some l => ch l s
theorem ch_append (p : Bool) : ∀ (l r : List Bool), ch p (l ++ r) = ch p l + ch (l.getLast?.getD p) r
  | [], r => by simp [ch]
  | x :: l, r => by
    have ih := ch_append x l r
    simp only [List.cons_append, ch, ih]
    have : (x :: l).getLast?.getD p = l.getLast?.getD x := by
      cases l with
      | nil => rfl
      | cons y t => simp [List.getLast?_cons_cons]; rfl
    rw [this]
    omega

theorem ch_one (p a : Bool) : ∀ l : List Bool, ch p l ≤ (if p = a then 0 else 1) + ch a l
  | [] => by simp [ch]
  | x :: r => by
    simp only [ch]
    cases p <;> cases a <;> cases x <;> simp <;> omega
theorem ch_tri (p : Bool) : ∀ (b l : List Bool), ch p l ≤ ch p b + ch (b.getLast?.getD p) l
  | [], l => by simp [ch]
  | x :: b, l => by
    have ih := ch_tri x b l
    have : (x :: b).getLast?.getD p = b.getLast?.getD x := by
      cases b with
      | nil => rfl
      | cons y t => simp [List.getLast?_cons_cons]; rfl
    rw [this]
    have h1 := ch_one p x l
    simp only [ch]
    omega
theorem gl {α : Type} (p : α) (l : List α) (x : α) : (l ++ [x]).getLast?.getD p = x := by simp
theorem ch_sub {l2 l1 : List Bool} (h : List.Sublist l2 l1) : ∀ (p q : Bool), ch p (l2 ++ [q]) ≤ ch p (l1 ++ [q]) := by
  induction h with
  | slnil => intro p q; exact Nat.le_refl _
  | cons a _ ih =>
    intro p q
    refine Nat.le_trans (ih p q) ?_
    simp only [List.cons_append, ch]
    exact ch_one p a _
  | cons_cons a _ ih =>
    intro p q
    simp only [List.cons_append, ch]
    exact Nat.add_le_add_left (ih a q) _
theorem cyc_snoc (l : List Bool) (z : Bool) : cyc (l ++ [z]) = ch z (l ++ [z]) := by
  simp [cyc]
/-- a part of a closed way has no more changes -/
theorem cyc_sub {l2 l1 : List Bool} (h : List.Sublist l2 l1) : cyc l2 ≤ cyc l1 := by
  rcases List.eq_nil_or_concat l2 with rfl | ⟨i2, z2, rfl⟩
  · simp [cyc]
  · rw [List.concat_eq_append] at h ⊢
    obtain ⟨r1, r2, rfl, h1, h2⟩ := List.append_sublist_iff.mp h
    have h3 : z2 ∈ r2 := by simpa using h2
    obtain ⟨s, t, rfl⟩ := List.append_of_mem h3
    rw [cyc_snoc]
    have h4 : List.Sublist i2 (r1 ++ s) := h1.trans (List.sublist_append_left r1 s)
    refine Nat.le_trans (ch_sub h4 z2 z2) ?_
    have e : r1 ++ (s ++ z2 :: t) = (r1 ++ s) ++ [z2] ++ t := by simp
    rw [e]
    have el : ((r1 ++ s) ++ [z2] ++ t).getLast? = some (t.getLast?.getD z2) := by
      cases t with
      | nil => simp
      | cons y u =>
        rw [List.getLast?_append]
        cases q : (y :: u).getLast? with
        | none => simp at q
        | some v => simp
    unfold cyc
    rw [el]
    simp only
    rw [ch_append _ ((r1 ++ s) ++ [z2]) t]
    have e2 : ((r1 ++ s) ++ [z2]).getLast?.getD (t.getLast?.getD z2) = z2 := by simp
    rw [e2]
    have := ch_tri z2 t ((r1 ++ s) ++ [z2])
    omega

/-! ### the polygon with its cuts -/
def rf (g : Lf) : V4 → List V4 → List V4
  | _, [] => []
  | p, v :: r => (if Crosses g p v then [cutG g p v] else []) ++ v :: rf g v r
def pos (f : Lf) (v : V4) : Bool := decide (0 < f.on v)
theorem pos_cut {g f : Lf} {u v : V4} (h : Crosses g u v) : pos f (cutG g u v) = pos f u ∨ pos f (cutG g u v) = pos f v := by
  have n1 : 0 < absI (g.on v) := absI_pos (by rcases h with c | c <;> omega)
  have n2 : 0 < absI (g.on u) := absI_pos (by rcases h with c | c <;> omega)
  unfold pos cutG
  rw [on_mix]
  by_cases a : 0 < f.on u <;> by_cases b : 0 < f.on v <;> simp [a, b]
  · have := Int.mul_pos a n1
    have := Int.mul_pos b n2
    omega
  · by_cases c : 0 < f.on u * absI (g.on v) + f.on v * absI (g.on u)
    · exact .inl c
    · exact .inr (by omega)
  · by_cases c : 0 < f.on u * absI (g.on v) + f.on v * absI (g.on u)
    · exact .inr c
    · exact .inl (by omega)
  · have h1 := scale (w := absI (g.on v)) (by omega) (show f.on u ≤ 0 by omega)
    have h2 := scale (w := absI (g.on u)) (by omega) (show f.on v ≤ 0 by omega)
    omega
theorem ch_rf (g f : Lf) : ∀ (p : V4) (l : List V4), ch (pos f p) ((rf g p l).map (pos f)) = ch (pos f p) (l.map (pos f))
  | _, [] => rfl
  | p, v :: r => by
    have ih := ch_rf g f v r
    by_cases c : Crosses g p v
    · simp only [rf, if_pos c, List.map_append, List.map_cons, List.map_nil, List.cons_append, List.nil_append, ch, ih]
      rcases pos_cut (f := f) c with e | e
      · rw [e]; simp
      · rw [e]; simp
    · simp only [rf, if_neg c, List.nil_append, List.map_cons, ch, ih]
theorem rf_last (g : Lf) : ∀ (p : V4) (l : List V4), (rf g p l).getLast? = l.getLast?
  | _, [] => rfl
  | p, v :: r => by
    have ih := rf_last g v r
    unfold rf
    rw [List.getLast?_append, List.getLast?_cons, List.getLast?_cons, ih]
    simp
theorem clip_rf (g : Lf) : ∀ (p : V4) (l : List V4), List.Sublist (clipP g (pairs p l)) (rf g p l)
  | _, [] => by simp [clipP, pairs, rf]
  | p, v :: r => by
    have ih := clip_rf g v r
    have e : clipP g (pairs p (v :: r)) = piece g p v ++ clipP g (pairs v r) := by simp [clipP, pairs]
    have e2 : rf g p (v :: r) = ((if Crosses g p v then [cutG g p v] else []) ++ [v]) ++ rf g v r := by simp [rf]
    rw [e, e2]
    refine List.Sublist.append ?_ ih
    unfold piece
    refine List.Sublist.append (List.Sublist.refl _) ?_
    split
    · exact List.Sublist.refl _
    · exact List.nil_sublist _
/-- every linear form changes its sign at most twice around the polygon -/
def Round (s : List V4) : Prop := ∀ f : Lf, cyc (s.map (pos f)) ≤ 2
theorem cyc_rf {g f : Lf} {s : List V4} {l : V4} (hl : s.getLast? = some l) : cyc ((rf g l s).map (pos f)) = cyc (s.map (pos f)) := by
  unfold cyc
  rw [List.getLast?_map, List.getLast?_map, rf_last, hl]
  exact ch_rf g f l s
theorem Round.clip {g : Lf} {s : List V4} (h : Round s) : Round (clipM g s) := fun f => by
  unfold clipM
  split
  · simp [cyc]
  · rename_i l hl
    refine Nat.le_trans (cyc_sub (List.Sublist.map _ (clip_rf g l s))) ?_
    rw [cyc_rf hl]
    exact h f
theorem round_three (a b c : V4) : Round [a, b, c] := fun f => by
  simp only [List.map_cons, List.map_nil, cyc, List.getLast?_cons_cons, List.getLast?_singleton, ch]
  cases pos f a <;> cases pos f b <;> cases pos f c <;> decide

/-! ### labels around the polygon -/
inductive Lab where
  | left | mid | right
deriving DecidableEq
def dst : Lab → Lab → Nat
  | .left, .left => 0
  | .mid, .mid => 0
  | .right, .right => 0
  | .left, .right => 2
  | .right, .left => 2
  | _, _ => 1
def okL : Lab → Lab → Prop
  | .left, .right => False
  | .right, .left => False
  | _, _ => True
def Lab.b : Lab → Bool
  | .mid => false
  | _ => true
def Adj : Lab → List Lab → Prop
  | _, [] => True
  | p, x :: r => okL p x ∧ Adj x r
theorem leg : ∀ (p : Lab) (l : List Lab), Adj p l → dst p (l.getLast?.getD p) ≤ ch p.b (l.map Lab.b)
  | p, [], _ => by cases p <;> simp [dst]
  | p, x :: r, h => by
    obtain ⟨h1, h2⟩ := h
    have ih := leg x r h2
    have e : (x :: r).getLast?.getD p = r.getLast?.getD x := by
      cases r with
      | nil => rfl
      | cons y t => simp [List.getLast?_cons_cons]; rfl
    rw [e]
    simp only [List.map_cons, ch]
    generalize r.getLast?.getD x = z at *
    cases p <;> cases x <;> cases z <;> simp [dst, okL, Lab.b] at * <;> omega
theorem adj_append : ∀ (p : Lab) (l r : List Lab), Adj p (l ++ r) → Adj p l ∧ Adj (l.getLast?.getD p) r
  | p, [], r, h => ⟨trivial, h⟩
  | p, x :: l, r, h => by
    obtain ⟨h1, h2⟩ := h
    obtain ⟨h3, h4⟩ := adj_append x l r h2
    have e : (x :: l).getLast?.getD p = l.getLast?.getD x := by
      cases l with
      | nil => rfl
      | cons y t => simp [List.getLast?_cons_cons]; rfl
    rw [e]
    exact ⟨⟨h1, h3⟩, h4⟩
theorem ch_map_append (p : Lab) (l r : List Lab) : ch p.b ((l ++ r).map Lab.b) = ch p.b (l.map Lab.b) + ch (l.getLast?.getD p).b (r.map Lab.b) := by
  rw [List.map_append, ch_append]
  congr 2
  rw [List.getLast?_map]
  cases l.getLast? <;> rfl
theorem three (z x y : Lab) (l1 l2 l3 : List Lab) (hz : (l1 ++ [x] ++ l2 ++ [y] ++ l3).getLast?.getD z = z) (h : Adj z (l1 ++ [x] ++ l2 ++ [y] ++ l3)) :
    dst z x + dst x y + dst y z ≤ ch z.b ((l1 ++ [x] ++ l2 ++ [y] ++ l3).map Lab.b) := by
  obtain ⟨h1, a3⟩ := adj_append _ _ _ h
  have h1' : Adj z ((l1 ++ [x]) ++ (l2 ++ [y])) := by simpa using h1
  obtain ⟨a1, a2⟩ := adj_append _ _ _ h1'
  have e1 : (l1 ++ [x]).getLast?.getD z = x := gl _ _ _
  have e2 : (l1 ++ [x] ++ l2 ++ [y]).getLast?.getD z = y := gl _ _ _
  rw [e1] at a2
  rw [e2] at a3
  have k1 := leg _ _ a1
  have k2 := leg _ _ a2
  have k3 := leg _ _ a3
  rw [e1] at k1
  have e4 : (l2 ++ [y]).getLast?.getD x = y := gl _ _ _
  rw [e4] at k2
  have e5 : l3.getLast?.getD y = z := by
    rw [List.getLast?_append] at hz
    cases q : l3.getLast? with
    | none =>
      rw [q, Option.none_or, e2] at hz
      exact hz
    | some v =>
      rw [q] at hz
      simpa using hz
  rw [e5] at k3
  rw [ch_map_append, e2]
  have e3 : l1 ++ [x] ++ l2 ++ [y] = (l1 ++ [x]) ++ (l2 ++ [y]) := by simp
  rw [e3, ch_map_append, e1]
  omega
theorem four {z : Lab} {l : List Lab} (hz : l.getLast?.getD z = z) (h : Adj z l) (hl : Lab.left ∈ l) (hr : Lab.right ∈ l) : 4 ≤ ch z.b (l.map Lab.b) := by
  obtain ⟨l1, l2, rfl⟩ := List.append_of_mem hl
  have k : Lab.right ∈ l1 ∨ Lab.right ∈ l2 := by
    simp at hr
    exact hr
  rcases k with k | k
  · obtain ⟨m1, m2, rfl⟩ := List.append_of_mem k
    have e : m1 ++ Lab.right :: m2 ++ Lab.left :: l2 = m1 ++ [Lab.right] ++ m2 ++ [Lab.left] ++ l2 := by simp
    rw [e] at hz h ⊢
    have := three z .right .left m1 m2 l2 hz h
    exact Nat.le_trans (by cases z <;> decide) this
  · obtain ⟨m1, m2, rfl⟩ := List.append_of_mem k
    have e : l1 ++ Lab.left :: (m1 ++ Lab.right :: m2) = l1 ++ [Lab.left] ++ m1 ++ [Lab.right] ++ m2 := by simp
    rw [e] at hz h ⊢
    have := three z .left .right l1 m1 m2 hz h
    exact Nat.le_trans (by cases z <;> decide) this

/-! ### a form that is nowhere above 0 behind the clipping -/
def labOf (g f : Lf) (v : V4) : Lab := if 0 < f.on v then (if g.on v < 0 then .left else if 0 < g.on v then .right else .mid) else .mid
theorem lab_left {g f : Lf} {v : V4} (h1 : 0 < f.on v) (h2 : g.on v < 0) : labOf g f v = .left := by
  unfold labOf; rw [if_pos h1, if_pos h2]
theorem lab_right {g f : Lf} {v : V4} (h1 : 0 < f.on v) (h2 : 0 < g.on v) : labOf g f v = .right := by
  unfold labOf; rw [if_pos h1, if_neg (by omega), if_pos h2]
theorem lab_zero {g f : Lf} {v : V4} (h : g.on v = 0) : labOf g f v = .mid := by
  unfold labOf; split
  · rw [if_neg (by omega), if_neg (by omega)]
  · rfl
theorem lab_b {g f : Lf} {v : V4} (h : g.on v = 0 → f.on v ≤ 0) : (labOf g f v).b = pos f v := by
  unfold labOf pos
  split
  · rename_i h1
    split
    · simp [Lab.b, h1]
    · split
      · simp [Lab.b, h1]
      · have := h (by omega)
        omega
  · rename_i h1
    simp [Lab.b, h1]
theorem ok_of {g f : Lf} {u v : V4} (h : ¬ Crosses g u v) : okL (labOf g f u) (labOf g f v) := by
  unfold Crosses at h
  unfold labOf
  by_cases a : 0 < f.on u <;> by_cases b : 0 < f.on v <;> by_cases c : g.on u < 0 <;> by_cases d : g.on v < 0 <;> by_cases e : 0 < g.on u <;> by_cases i : 0 < g.on v <;> simp [a, b, c, d, e, i, okL] <;> omega
theorem adj_rf (g f : Lf) : ∀ (p : V4) (l : List V4), Adj (labOf g f p) ((rf g p l).map (labOf g f))
  | _, [] => trivial
  | p, v :: r => by
    have ih := adj_rf g f v r
    by_cases c : Crosses g p v
    · have e := lab_zero (f := f) (cut_on c)
      simp only [rf, if_pos c, List.map_append, List.map_cons, List.map_nil, List.cons_append, List.nil_append, Adj]
      rw [e]
      exact ⟨by cases labOf g f p <;> trivial, by cases labOf g f v <;> trivial, ih⟩
    · simp only [rf, if_neg c, List.nil_append, List.map_cons, Adj]
      exact ⟨ok_of c, ih⟩
theorem mem_rf {g : Lf} {a : V4} : ∀ {p : V4} {l : List V4}, a ∈ rf g p l → a ∈ clipP g (pairs p l) ∨ (a ∈ l ∧ 0 < g.on a)
  | _, [], h => by simp [rf] at h
  | p, v :: r, h => by
    have e : clipP g (pairs p (v :: r)) = piece g p v ++ clipP g (pairs v r) := by simp [clipP, pairs]
    rw [e]
    unfold rf at h
    rcases List.mem_append.mp h with h | h
    · exact .inl (List.mem_append_left _ (List.mem_append_left _ h))
    · rcases List.mem_cons.mp h with rfl | h
      · by_cases k : g.on a ≤ 0
        · refine .inl (List.mem_append_left _ (List.mem_append_right _ ?_))
          rw [if_pos k]
          exact List.mem_cons_self
        · exact .inr ⟨List.mem_cons_self, by omega⟩
      · rcases mem_rf h with h | ⟨h1, h2⟩
        · exact .inl (List.mem_append_right _ h)
        · exact .inr ⟨List.mem_cons_of_mem _ h1, h2⟩
theorem rf_sub {g : Lf} {a : V4} : ∀ {p : V4} {l : List V4}, a ∈ l → a ∈ rf g p l
  | _, [], h => nomatch h
  | p, v :: r, h => by
    unfold rf
    rcases List.mem_cons.mp h with rfl | h
    · exact List.mem_append_right _ List.mem_cons_self
    · exact List.mem_append_right _ (List.mem_cons_of_mem _ (rf_sub h))
def comb (a : Int) (f : Lf) (b : Int) (g : Lf) : Lf := ⟨a * f.x + b * g.x, a * f.y + b * g.y, a * f.z + b * g.z, a * f.w + b * g.w⟩
theorem on_comb (a : Int) (f : Lf) (b : Int) (g : Lf) (v : V4) : (comb a f b g).on v = a * f.on v + b * g.on v := by
  simp only [Lf.on, comb]; grind
/-- the segment between any inner and any outer point passes the line where the form is not above 0 -/
theorem through {g f : Lf} {s : List V4} (hr : Round s) (h : ∀ v ∈ clipM g s, f.on v ≤ 0) {u v : V4} (hu : u ∈ s) (hv : v ∈ s) (gu : g.on u < 0) (gv : 0 < g.on v) : f.on u * g.on v - f.on v * g.on u ≤ 0 := by
  apply Classical.byContradiction
  intro hc
  have hc : 0 < f.on u * g.on v - f.on v * g.on u := by omega
  obtain ⟨l, hl⟩ : ∃ l, s.getLast? = some l := by
    cases q : s.getLast? with
    | none =>
      rw [List.getLast?_eq_none_iff] at q
      subst q
      exact nomatch hu
    | some l => exact ⟨l, rfl⟩
  have h' : ∀ v ∈ clipP g (pairs l s), f.on v ≤ 0 := by
    intro v hv
    apply h
    unfold clipM
    rw [hl]
    exact hv
  -- a form that is above 0 at both
  have eu : (comb (g.on v - g.on u) f (-(f.on v - f.on u)) g).on u = f.on u * g.on v - f.on v * g.on u := by rw [on_comb]; grind
  have ev' : (comb (g.on v - g.on u) f (-(f.on v - f.on u)) g).on v = f.on u * g.on v - f.on v * g.on u := by rw [on_comb]; grind
  have e0 : ∀ a, g.on a = 0 → (comb (g.on v - g.on u) f (-(f.on v - f.on u)) g).on a = (g.on v - g.on u) * f.on a := by
    intro a ha; rw [on_comb, ha]; grind
  generalize comb (g.on v - g.on u) f (-(f.on v - f.on u)) g = k at eu ev' e0
  have zero : ∀ a ∈ rf g l s, g.on a = 0 → k.on a ≤ 0 := by
    intro a ha ga
    rw [e0 a ga]
    rcases mem_rf ha with m | ⟨_, m⟩
    · have := Int.mul_le_mul_of_nonneg_left (h' a m) (show 0 ≤ g.on v - g.on u by omega)
      omega
    · omega
  have hz : ((rf g l s).map (labOf g k)).getLast?.getD (labOf g k l) = labOf g k l := by
    rw [List.getLast?_map, rf_last, hl]
    rfl
  have h4 := four hz (adj_rf g k l s) (List.mem_map.mpr ⟨u, rf_sub hu, lab_left (by omega) gu⟩) (List.mem_map.mpr ⟨v, rf_sub hv, lab_right (by omega) gv⟩)
  have em : ((rf g l s).map (labOf g k)).map Lab.b = (rf g l s).map (pos k) := by
    rw [List.map_map]
    apply List.map_congr_left
    intro a ha
    exact lab_b (zero a ha)
  have el : (labOf g k l).b = pos k l := lab_b (zero l (rf_sub (List.mem_of_getLast? hl)))
  rw [em, el] at h4
  have h2 := hr k
  rw [← cyc_rf (g := g) hl] at h2
  unfold cyc at h2
  rw [List.getLast?_map, rf_last, hl] at h2
  simp only [Option.map_some] at h2
  omega
/-- the greatest ratio -/
theorem best {g f : Lf} : ∀ s : List V4, (∃ v ∈ s, 0 < g.on v) → ∃ v ∈ s, 0 < g.on v ∧ ∀ u ∈ s, 0 < g.on u → f.on u * g.on v ≤ f.on v * g.on u
  | [], ⟨_, h, _⟩ => nomatch h
  | a :: r, hn => by
    by_cases hr : ∃ v ∈ r, 0 < g.on v
    · obtain ⟨v, hv, gv, hm⟩ := best r hr
      by_cases ha : 0 < g.on a
      · by_cases hc : f.on a * g.on v ≤ f.on v * g.on a
        · refine ⟨v, List.mem_cons_of_mem _ hv, gv, fun u hu gu => ?_⟩
          rcases List.mem_cons.mp hu with rfl | hu
          · exact hc
          · exact hm u hu gu
        · refine ⟨a, List.mem_cons_self, ha, fun u hu gu => ?_⟩
          rcases List.mem_cons.mp hu with rfl | hu
          · exact Int.le_refl _
          · have h1 := scale (w := g.on a) (by omega) (hm u hu gu)
            have h2 := scale (w := g.on u) (by omega) (show f.on v * g.on a ≤ f.on a * g.on v by omega)
            have e1 : f.on u * g.on v * g.on a = f.on u * g.on a * g.on v := by grind
            have e2 : f.on v * g.on u * g.on a = f.on v * g.on a * g.on u := by grind
            have e3 : f.on a * g.on v * g.on u = f.on a * g.on u * g.on v := by grind
            exact can gv (by omega)
      · refine ⟨v, List.mem_cons_of_mem _ hv, gv, fun u hu gu => ?_⟩
        rcases List.mem_cons.mp hu with rfl | hu
        · exact absurd gu ha
        · exact hm u hu gu
    · refine ⟨a, List.mem_cons_self, ?_, fun u hu gu => ?_⟩
      · obtain ⟨g', hg, vg⟩ := hn
        rcases List.mem_cons.mp hg with rfl | hg
        · exact vg
        · exact (hr ⟨g', hg, vg⟩).elim
      · rcases List.mem_cons.mp hu with rfl | hu
        · exact Int.le_refl _
        · exact (hr ⟨u, hu, gu⟩).elim
/-- behind the clipping nowhere above 0: then so ahead of it, less some multiple of the clipping form -/
theorem unclip {g f : Lf} {s : List V4} (hr : Round s) (h : ∀ v ∈ clipM g s, f.on v ≤ 0) : ∃ n m : Int, 0 < n ∧ 0 ≤ m ∧ ∀ v ∈ s, (comb n f (-m) g).on v ≤ 0 := by
  have inner : ∀ v ∈ s, g.on v ≤ 0 → f.on v ≤ 0 := by
    intro v hv gv
    obtain ⟨l, hl⟩ : ∃ l, s.getLast? = some l := by
      cases q : s.getLast? with
      | none =>
        rw [List.getLast?_eq_none_iff] at q
        subst q
        exact nomatch hv
      | some l => exact ⟨l, rfl⟩
    rcases mem_rf (rf_sub (g := g) (p := l) hv) with m | ⟨_, m⟩
    · apply h
      unfold clipM
      rw [hl]
      exact m
    · omega
  by_cases hn : ∃ v ∈ s, 0 < g.on v
  · obtain ⟨v, hv, gv, hm⟩ := best (f := f) s hn
    by_cases hf : f.on v ≤ 0
    · refine ⟨1, 0, by decide, by decide, fun u hu => ?_⟩
      rw [on_comb]
      by_cases gu : g.on u ≤ 0
      · have := inner u hu gu
        omega
      · have k1 := hm u hu (by omega)
        have k2 := scale (w := g.on u) (by omega) hf
        have k3 : f.on u ≤ 0 := can gv (by omega)
        omega
    · refine ⟨g.on v, f.on v, gv, by omega, fun u hu => ?_⟩
      rw [on_comb]
      by_cases gu : g.on u < 0
      · have := through hr h hu hv gu gv
        grind
      · by_cases g0 : g.on u = 0
        · have k := Int.mul_le_mul_of_nonneg_left (inner u hu (by omega)) (show 0 ≤ g.on v by omega)
          rw [g0]
          omega
        · have := hm u hu (by omega)
          grind
  · refine ⟨1, 0, by decide, by decide, fun u hu => ?_⟩
    rw [on_comb]
    have := inner u hu (by
      apply Classical.byContradiction
      intro q
      exact hn ⟨u, hu, by omega⟩)
    omega
end FpM
namespace FpM
/-! ### a triangle clipped -/
def pt (t : Tr) (l : Wt) : V4 := ⟨l.X t, l.Y t, l.Z t, l.w⟩
def v4 (p : Pt) : V4 := ⟨p.x, p.y, p.z, 1⟩
def base (t : Tr) : List V4 := [v4 t.a, v4 t.b, v4 t.c]
def axL (ax : Nat) (sign at_ : Int) : Lf := match ax with
  | 0 => ⟨sign, 0, 0, -(sign * at_)⟩
  | 1 => ⟨0, sign, 0, -(sign * at_)⟩
  | _ => ⟨0, 0, sign, -(sign * at_)⟩
def ax4 (ax : Nat) (v : V4) : Int := match ax with
  | 0 => v.x
  | 1 => v.y
  | _ => v.z
theorem on_axL (ax : Nat) (sign at_ : Int) (v : V4) : (axL ax sign at_).on v = sign * (ax4 ax v - at_ * v.w) := by
  match ax with
  | 0 => simp only [axL, ax4, Lf.on]; grind
  | 1 => simp only [axL, ax4, Lf.on]; grind
  | n + 2 => simp only [axL, ax4, Lf.on]; grind
def clipsM (gs : List Lf) (s : List V4) : List V4 := gs.foldl (fun s g => clipM g s) s
theorem clips_keep {P : V4 → Prop} (hP : ∀ u v a b, P u → P v → 0 < a → 0 < b → P (mix a u b v)) : ∀ {gs : List Lf} {s : List V4}, (∀ v ∈ s, P v) → ∀ v ∈ clipsM gs s, P v
  | [], _, h => h
  | g :: gs, s, h => clips_keep hP (gs := gs) (s := clipM g s) (clip_keeps hP h)
theorem le_mix (g : Lf) : ∀ u v a b, g.on u ≤ 0 → g.on v ≤ 0 → 0 < a → 0 < b → g.on (mix a u b v) ≤ 0 := by
  intro u v a b h1 h2 ha hb
  rw [on_mix]
  have := scale (w := a) (by omega) h1
  have := scale (w := b) (by omega) h2
  omega
theorem clips_on : ∀ {gs : List Lf} {s : List V4}, ∀ v ∈ clipsM gs s, ∀ g ∈ gs, g.on v ≤ 0
  | [], _, _, _, _, h => nomatch h
  | g :: gs, s, v, hv, g', hg => by
    rcases List.mem_cons.mp hg with rfl | hg
    · exact clips_keep (le_mix _) (gs := gs) (s := clipM _ s) clip_on v hv
    · exact clips_on (gs := gs) (s := clipM g s) v hv g' hg
theorem unclips : ∀ {gs : List Lf} {s : List V4}, Round s → ∀ {f : Lf}, (∀ v ∈ clipsM gs s, f.on v ≤ 0) → ∀ x : V4, (∀ g ∈ gs, g.on x ≤ 0) → (∀ f' : Lf, (∀ v ∈ s, f'.on v ≤ 0) → f'.on x ≤ 0) → f.on x ≤ 0
  | [], s, _, f, h, x, _, k => k f h
  | g :: gs, s, hr, f, h, x, hx, k => by
    refine unclips (gs := gs) (s := clipM g s) hr.clip h x (fun g' hg => hx g' (List.mem_cons_of_mem _ hg)) fun f' hf => ?_
    obtain ⟨n, m, hn, hm, hs⟩ := unclip hr hf
    have k1 := k _ hs
    rw [on_comb] at k1
    have k2 := Int.mul_le_mul_of_nonneg_left (hx g List.mem_cons_self) hm
    apply Classical.byContradiction
    intro q
    have := Int.mul_pos hn (show 0 < f'.on x by omega)
    have e : -m * g.on x = -(m * g.on x) := by grind
    omega
/-- v is a point of the triangle -/
def InT (t : Tr) (v : V4) : Prop := ∃ l : Wt, 0 ≤ l.p ∧ 0 ≤ l.q ∧ 0 ≤ l.r ∧ 0 < l.w ∧ v = pt t l
theorem inT_mix (t : Tr) : ∀ u v a b, InT t u → InT t v → 0 < a → 0 < b → InT t (mix a u b v) := by
  rintro u v a b ⟨l, h1, h2, h3, h4, rfl⟩ ⟨m, k1, k2, k3, k4, rfl⟩ ha hb
  refine ⟨mv a b l m, ?_, ?_, ?_, ?_, ?_⟩
  · have := mul_nn (show 0 ≤ a by omega) h1; have := mul_nn (show 0 ≤ b by omega) k1; simp only [mv]; omega
  · have := mul_nn (show 0 ≤ a by omega) h2; have := mul_nn (show 0 ≤ b by omega) k2; simp only [mv]; omega
  · have := mul_nn (show 0 ≤ a by omega) h3; have := mul_nn (show 0 ≤ b by omega) k3; simp only [mv]; omega
  · rw [w_mv]
    have := Int.mul_pos ha h4; have := Int.mul_pos hb k4; omega
  · simp only [mix, pt, mv, Wt.X, Wt.Y, Wt.Z, Wt.w, V4.mk.injEq]
    refine ⟨?_, ?_, ?_, ?_⟩ <;> grind
theorem base_in (t : Tr) : ∀ v ∈ base t, InT t v := by
  intro v hv
  simp only [base, List.mem_cons, List.not_mem_nil, or_false] at hv
  rcases hv with rfl | rfl | rfl
  · exact ⟨⟨1, 0, 0⟩, by simp, by simp, by simp, by simp [Wt.w], by simp [v4, pt, Wt.X, Wt.Y, Wt.Z, Wt.w]⟩
  · exact ⟨⟨0, 1, 0⟩, by simp, by simp, by simp, by simp [Wt.w], by simp [v4, pt, Wt.X, Wt.Y, Wt.Z, Wt.w]⟩
  · exact ⟨⟨0, 0, 1⟩, by simp, by simp, by simp, by simp [Wt.w], by simp [v4, pt, Wt.X, Wt.Y, Wt.Z, Wt.w]⟩
theorem base_round (t : Tr) : Round (base t) := round_three _ _ _
theorem base_form {t : Tr} {l : Wt} (hp : 0 ≤ l.p) (hq : 0 ≤ l.q) (hr : 0 ≤ l.r) (f : Lf) (h : ∀ v ∈ base t, f.on v ≤ 0) : f.on (pt t l) ≤ 0 := by
  have e : f.on (pt t l) = f.on (v4 t.a) * l.p + f.on (v4 t.b) * l.q + f.on (v4 t.c) * l.r := by
    simp only [Lf.on, pt, v4, Wt.X, Wt.Y, Wt.Z, Wt.w]; grind
  rw [e]
  have h1 := scale hp (h (v4 t.a) (by simp [base]))
  have h2 := scale hq (h (v4 t.b) (by simp [base]))
  have h3 := scale hr (h (v4 t.c) (by simp [base]))
  omega

/-! ### over a rectangle -/
def overL (x0 z0 x1 z1 : Int) : List Lf := [axL 0 (-1) x0, axL 0 1 x1, axL 2 (-1) z0, axL 2 1 z1]
def overM (t : Tr) (x0 z0 x1 z1 : Int) : List V4 := clipsM (overL x0 z0 x1 z1) (base t)
theorem over_on {x0 z0 x1 z1 : Int} {v : V4} : (∀ g ∈ overL x0 z0 x1 z1, g.on v ≤ 0) ↔ (x0 * v.w ≤ v.x ∧ v.x ≤ x1 * v.w) ∧ (z0 * v.w ≤ v.z ∧ v.z ≤ z1 * v.w) := by
  simp only [overL, List.mem_cons, List.not_mem_nil, or_false, forall_eq_or_imp, forall_eq, on_axL, ax4]
  omega
theorem over_sound {t : Tr} {x0 z0 x1 z1 : Int} {v : V4} (h : v ∈ overM t x0 z0 x1 z1) : ∃ l, Ov t x0 z0 x1 z1 l ∧ v = pt t l := by
  obtain ⟨l, h1, h2, h3, h4, e⟩ := clips_keep (inT_mix t) (base_in t) v h
  obtain ⟨⟨k1, k2⟩, k3, k4⟩ := over_on.mp (clips_on v h)
  subst e
  exact ⟨l, ⟨h1, h2, h3, h4, k1, k2, k3, k4⟩, rfl⟩
/-- no vertex above n / d: then no point -/
theorem over_complete {t : Tr} {x0 z0 x1 z1 n d : Int} {l : Wt} (h : Ov t x0 z0 x1 z1 l) (hv : ∀ v ∈ overM t x0 z0 x1 z1, v.y * d ≤ n * v.w) : l.Y t * d ≤ n * l.w := by
  have k := unclips (gs := overL x0 z0 x1 z1) (base_round t) (f := ⟨0, d, 0, -n⟩) (fun v q => by
    have := hv v q
    have e : (⟨0, d, 0, -n⟩ : Lf).on v = v.y * d - n * v.w := by simp only [Lf.on]; grind
    omega) (pt t l) (over_on.mpr ⟨⟨h.xl, h.xh⟩, h.zl, h.zh⟩) (base_form h.p h.q h.r)
  have e : (⟨0, d, 0, -n⟩ : Lf).on (pt t l) = l.Y t * d - n * l.w := by simp only [Lf.on, pt]; grind
  omega

/-! ### within a box -/
def boxL (x0 y0 z0 x1 y1 z1 : Int) : List Lf := [axL 0 (-1) x0, axL 0 1 x1, axL 1 (-1) y0, axL 1 1 y1, axL 2 (-1) z0, axL 2 1 z1]
def boxedM (t : Tr) (x0 y0 z0 x1 y1 z1 : Int) : List V4 := clipsM (boxL x0 y0 z0 x1 y1 z1) (base t)
def add4 (u v : V4) : V4 := ⟨u.x + v.x, u.y + v.y, u.z + v.z, u.w + v.w⟩
theorem on_add (g : Lf) (u v : V4) : g.on (add4 u v) = g.on u + g.on v := by simp only [Lf.on, add4]; grind
theorem add_mix (u v : V4) : add4 u v = mix 1 u 1 v := by simp [add4, mix]
/-- the sum of some points: of the triangle, and strictly on the inner side where one of them is -/
theorem sum_in {t : Tr} : ∀ (s : List V4), s ≠ [] → (∀ v ∈ s, InT t v) → ∃ c, InT t c ∧ ∀ g : Lf, (∀ v ∈ s, g.on v ≤ 0) → g.on c ≤ 0 ∧ ((∃ v ∈ s, g.on v < 0) → g.on c < 0)
  | [], h, _ => absurd rfl h
  | [a], _, h => ⟨a, h a List.mem_cons_self, fun g hg => ⟨hg a List.mem_cons_self, fun ⟨v, hv, k⟩ => by
      have e : v = a := by simpa using hv
      rw [← e]; exact k⟩⟩
  | a :: b :: r, _, h => by
    obtain ⟨c, hc, k⟩ := sum_in (t := t) (b :: r) (by simp) fun v hv => h v (List.mem_cons_of_mem _ hv)
    refine ⟨add4 a c, ?_, fun g hg => ?_⟩
    · rw [add_mix]
      exact inT_mix t _ _ _ _ (h a List.mem_cons_self) hc (by decide) (by decide)
    · obtain ⟨k1, k2⟩ := k g fun v hv => hg v (List.mem_cons_of_mem _ hv)
      have k3 := hg a List.mem_cons_self
      rw [on_add]
      refine ⟨by omega, fun ⟨v, hv, q⟩ => ?_⟩
      rcases List.mem_cons.mp hv with rfl | hv
      · omega
      · have := k2 ⟨v, hv, q⟩
        omega
structure Inside (t : Tr) (x0 y0 z0 x1 y1 z1 : Int) (l : Wt) : Prop where
  p : 0 ≤ l.p
  q : 0 ≤ l.q
  r : 0 ≤ l.r
  w : 0 < l.w
  x : x0 * l.w < l.X t ∧ l.X t < x1 * l.w
  y : y0 * l.w < l.Y t ∧ l.Y t < y1 * l.w
  z : z0 * l.w < l.Z t ∧ l.Z t < z1 * l.w
theorem touch_inside {t : Tr} {x0 y0 z0 x1 y1 z1 : Int} (hn : boxedM t x0 y0 z0 x1 y1 z1 ≠ [])
    (hx : (∃ v ∈ boxedM t x0 y0 z0 x1 y1 z1, x0 * v.w < v.x) ∧ ∃ v ∈ boxedM t x0 y0 z0 x1 y1 z1, v.x < x1 * v.w)
    (hy : (∃ v ∈ boxedM t x0 y0 z0 x1 y1 z1, y0 * v.w < v.y) ∧ ∃ v ∈ boxedM t x0 y0 z0 x1 y1 z1, v.y < y1 * v.w)
    (hz : (∃ v ∈ boxedM t x0 y0 z0 x1 y1 z1, z0 * v.w < v.z) ∧ ∃ v ∈ boxedM t x0 y0 z0 x1 y1 z1, v.z < z1 * v.w) : ∃ l, Inside t x0 y0 z0 x1 y1 z1 l := by
  obtain ⟨c, ⟨l, h1, h2, h3, h4, e⟩, k⟩ := sum_in _ hn (clips_keep (inT_mix t) (base_in t))
  subst e
  have low : ∀ (ax : Nat) (at_ : Int), axL ax (-1) at_ ∈ boxL x0 y0 z0 x1 y1 z1 → (∃ v ∈ boxedM t x0 y0 z0 x1 y1 z1, at_ * v.w < ax4 ax v) → at_ * (pt t l).w < ax4 ax (pt t l) := by
    intro ax at_ hm ⟨v, hv, q⟩
    have := (k (axL ax (-1) at_) fun v hv => clips_on v hv _ hm).2 ⟨v, hv, by rw [on_axL]; omega⟩
    rw [on_axL] at this
    omega
  have high : ∀ (ax : Nat) (at_ : Int), axL ax 1 at_ ∈ boxL x0 y0 z0 x1 y1 z1 → (∃ v ∈ boxedM t x0 y0 z0 x1 y1 z1, ax4 ax v < at_ * v.w) → ax4 ax (pt t l) < at_ * (pt t l).w := by
    intro ax at_ hm ⟨v, hv, q⟩
    have := (k (axL ax 1 at_) fun v hv => clips_on v hv _ hm).2 ⟨v, hv, by rw [on_axL]; omega⟩
    rw [on_axL] at this
    omega
  exact ⟨l, h1, h2, h3, h4, ⟨low 0 x0 (by simp [boxL]) hx.1, high 0 x1 (by simp [boxL]) hx.2⟩, ⟨low 1 y0 (by simp [boxL]) hy.1, high 1 y1 (by simp [boxL]) hy.2⟩, low 2 z0 (by simp [boxL]) hz.1, high 2 z1 (by simp [boxL]) hz.2⟩
end FpM
namespace FpM
/-! ### the extent -/
def pick (acc : (Int × Int) × (Int × Int)) (h : Int × Int) : (Int × Int) × (Int × Int) :=
  (if h.1 * acc.1.2 < acc.1.1 * h.2 then h else acc.1, if acc.2.1 * h.2 < h.1 * acc.2.2 then h else acc.2)
def extentM (t : Tr) (x0 z0 x1 z1 : Int) : Option ((Int × Int) × (Int × Int)) := match heightsM t x0 z0 x1 z1 with
  | [] => none
  | h :: r => some (r.foldl pick (h, h))
/-- the least and the greatest of some fractions -/
structure Least (s : List (Int × Int)) (e : (Int × Int) × (Int × Int)) : Prop where
  inl : e.1 ∈ s
  inh : e.2 ∈ s
  low : ∀ h ∈ s, e.1.1 * h.2 ≤ h.1 * e.1.2
  high : ∀ h ∈ s, h.1 * e.2.2 ≤ e.2.1 * h.2
theorem frac_trans {a b c : Int × Int} (ha : 0 < a.2) (hb : 0 < b.2) (hc : 0 < c.2) (h1 : a.1 * b.2 ≤ b.1 * a.2) (h2 : b.1 * c.2 ≤ c.1 * b.2) : a.1 * c.2 ≤ c.1 * a.2 := by
  have k1 := scale (w := c.2) (by omega) h1
  have k2 := scale (w := a.2) (by omega) h2
  exact can hb (by grind)
theorem pick_least : ∀ (r s : List (Int × Int)) (e : (Int × Int) × (Int × Int)), (∀ h ∈ s, 0 < h.2) → (∀ h ∈ r, 0 < h.2) → Least s e → Least (s ++ r) (r.foldl pick e)
  | [], s, e, _, _, h => by simpa using h
  | a :: r, s, e, hs, hr, h => by
    have ha := hr a List.mem_cons_self
    have h1 := hs _ h.inl
    have h2 := hs _ h.inh
    have e1 : s ++ a :: r = (s ++ [a]) ++ r := by simp
    rw [e1]
    refine pick_least r (s ++ [a]) (pick e a) (fun g hg => ?_) (fun g hg => hr g (List.mem_cons_of_mem _ hg)) ⟨?_, ?_, fun g hg => ?_, fun g hg => ?_⟩
    · rcases List.mem_append.mp hg with hg | hg
      · exact hs g hg
      · have : g = a := by simpa using hg
        rw [this]; exact ha
    · unfold pick
      simp only
      split
      · simp
      · exact List.mem_append_left _ h.inl
    · unfold pick
      simp only
      split
      · simp
      · exact List.mem_append_left _ h.inh
    · have gp : 0 < g.2 := by
        rcases List.mem_append.mp hg with hg | hg
        · exact hs g hg
        · have : g = a := by simpa using hg
          rw [this]; exact ha
      unfold pick
      simp only
      split
      · rename_i c
        rcases List.mem_append.mp hg with hg | hg
        · exact frac_trans ha h1 gp (by omega) (h.low g hg)
        · have : g = a := by simpa using hg
          rw [this]; exact Int.le_refl _
      · rename_i c
        rcases List.mem_append.mp hg with hg | hg
        · exact h.low g hg
        · have : g = a := by simpa using hg
          rw [this]; omega
    · have gp : 0 < g.2 := by
        rcases List.mem_append.mp hg with hg | hg
        · exact hs g hg
        · have : g = a := by simpa using hg
          rw [this]; exact ha
      unfold pick
      simp only
      split
      · rename_i c
        rcases List.mem_append.mp hg with hg | hg
        · exact frac_trans gp h2 ha (h.high g hg) (by omega)
        · have : g = a := by simpa using hg
          rw [this]; exact Int.le_refl _
      · rename_i c
        rcases List.mem_append.mp hg with hg | hg
        · exact h.high g hg
        · have : g = a := by simpa using hg
          rw [this]; omega
theorem extent_least {t : Tr} {x0 z0 x1 z1 : Int} (hx : x0 ≤ x1) (hz : z0 ≤ z1) {e : (Int × Int) × (Int × Int)} (h : extentM t x0 z0 x1 z1 = some e) : Least (heightsM t x0 z0 x1 z1) e := by
  unfold extentM at h
  split at h
  · cases h
  · rename_i a r q
    have h := Option.some.inj h
    subst h
    rw [q]
    have hp : ∀ g ∈ heightsM t x0 z0 x1 z1, 0 < g.2 := fun g hg => (heights_sound hx hz hg).1
    rw [q] at hp
    refine pick_least r [a] (a, a) (fun g hg => ?_) (fun g hg => hp g (List.mem_cons_of_mem _ hg)) ⟨by simp, by simp, ?_, ?_⟩
    · have : g = a := by simpa using hg
      rw [this]; exact hp a List.mem_cons_self
    · intro g hg
      have : g = a := by simpa using hg
      rw [this]; exact Int.le_refl _
    · intro g hg
      have : g = a := by simpa using hg
      rw [this]; exact Int.le_refl _
theorem extent_none {t : Tr} {x0 z0 x1 z1 : Int} (hx : x0 < x1) (hz : z0 < z1) (h : extentM t x0 z0 x1 z1 = none) {l : Wt} (o : Ov t x0 z0 x1 z1 l) : False := by
  unfold extentM at h
  split at h
  · rename_i q
    obtain ⟨⟨g, hg, _⟩, _⟩ := heights_complete hx hz o
    rw [q] at hg
    exact nomatch hg
  · cases h

/-! ### solids -/
def ceilM (n u : Int) : Int := -(-n / u)
def mx (i j : Int) : Int := if j > i then j else i
def mn (i j : Int) : Int := if j < i then j else i
theorem ceil_le {n u : Int} (hu : 0 < u) : n ≤ ceilM n u * u ∧ (ceilM n u - 1) * u < n := by
  unfold ceilM
  have h1 := Int.ediv_mul_le (-n) (show u ≠ 0 by omega)
  have h2 := Int.lt_ediv_add_one_mul_self (-n) hu
  constructor
  · have : -(-n / u) * u = -((-n / u) * u) := by grind
    omega
  · have : (-(-n / u) - 1) * u = -((-n / u + 1) * u) := by grind
    omega
theorem floor_le {n u : Int} (hu : 0 < u) : n / u * u ≤ n ∧ n < (n / u + 1) * u :=
  ⟨Int.ediv_mul_le n (by omega), Int.lt_ediv_add_one_mul_self n hu⟩
def flatM (t : Tr) (sn sd : Int) : Bool :=
  decide (0 < (nrm t).x * (nrm t).x + (nrm t).y * (nrm t).y + (nrm t).z * (nrm t).z ∧
    sn * ((nrm t).x * (nrm t).x + (nrm t).y * (nrm t).y + (nrm t).z * (nrm t).z) ≤ (nrm t).y * (nrm t).y * sd)
abbrev Sol := Int × Int × Option Int
def triM (cell level sn sd : Int) (t : Tr) (i k : Int) : Option Sol := match extentM t (i * cell) (k * cell) ((i + 1) * cell) ((k + 1) * cell) with
  | none => none
  | some (low, high) => some (low.1 / (low.2 * level), mx (low.1 / (low.2 * level) + 1) (ceilM high.1 (high.2 * level)),
      if flatM t sn sd then some (mx (low.1 / (low.2 * level) + 1) (ceilM high.1 (high.2 * level))) else none)
structure Bx where
  x0 : Int
  y0 : Int
  z0 : Int
  x1 : Int
  y1 : Int
  z1 : Int
  flat : Bool
def boxM (cell level : Int) (b : Bx) (i k : Int) : Option Sol :=
  if b.x0 > (i + 1) * cell ∨ b.x1 < i * cell ∨ b.z0 > (k + 1) * cell ∨ b.z1 < k * cell then none
  else some (b.y0 / level, ceilM b.y1 level, if b.flat then some (ceilM b.y1 level) else none)

/-- what a triangle has over a cell lies in its solid -/
theorem tri_cover {cell level sn sd : Int} {t : Tr} {i k : Int} {l : Wt} (hc : 0 < cell) (hl : 0 < level) (o : Ov t (i * cell) (k * cell) ((i + 1) * cell) ((k + 1) * cell) l) :
    ∃ s, triM cell level sn sd t i k = some s ∧ s.1 * level * l.w ≤ l.Y t ∧ l.Y t ≤ s.2.1 * level * l.w := by
  have hx : i * cell < (i + 1) * cell := by rw [Int.add_mul]; omega
  have hz : k * cell < (k + 1) * cell := by rw [Int.add_mul]; omega
  unfold triM
  cases q : extentM t (i * cell) (k * cell) ((i + 1) * cell) ((k + 1) * cell) with
  | none => exact (extent_none hx hz q o).elim
  | some e =>
    obtain ⟨low, high⟩ := e
    refine ⟨_, rfl, ?_, ?_⟩
    · have L := extent_least (Int.le_of_lt hx) (Int.le_of_lt hz) q
      obtain ⟨_, g, hg, k1⟩ := heights_complete hx hz o
      have gp := (heights_sound (Int.le_of_lt hx) (Int.le_of_lt hz) hg).1
      have lp := (heights_sound (Int.le_of_lt hx) (Int.le_of_lt hz) L.inl).1
      have k2 := L.low g hg
      simp only at k2 lp ⊢
      have hd : 0 < low.2 * level := Int.mul_pos lp hl
      have k3 := (floor_le (n := low.1) hd).1
      -- low ≤ g ≤ Y / w
      have k4 : low.1 * l.w ≤ l.Y t * low.2 := by
        have a1 := scale (w := l.w) (Int.le_of_lt o.w) k2
        have a2 := scale (w := low.2) (Int.le_of_lt lp) k1
        exact can gp (by grind)
      have k5 := scale (w := l.w) (Int.le_of_lt o.w) k3
      refine can lp ?_
      have e1 : low.1 / (low.2 * level) * level * l.w * low.2 = low.1 / (low.2 * level) * (low.2 * level) * l.w := by grind
      omega
    · have L := extent_least (Int.le_of_lt hx) (Int.le_of_lt hz) q
      obtain ⟨⟨g, hg, k1⟩, _⟩ := heights_complete hx hz o
      have gp := (heights_sound (Int.le_of_lt hx) (Int.le_of_lt hz) hg).1
      have lp := (heights_sound (Int.le_of_lt hx) (Int.le_of_lt hz) L.inh).1
      have k2 := L.high g hg
      simp only at k2 lp ⊢
      have hd : 0 < high.2 * level := Int.mul_pos lp hl
      have k3 := (ceil_le (n := high.1) hd).1
      have k4 : l.Y t * high.2 ≤ high.1 * l.w := by
        have a1 := scale (w := l.w) (Int.le_of_lt o.w) k2
        have a2 := scale (w := high.2) (Int.le_of_lt lp) k1
        exact can gp (by grind)
      have k5 := scale (w := l.w) (Int.le_of_lt o.w) k3
      have k6 : ceilM high.1 (high.2 * level) ≤ mx (low.1 / (low.2 * level) + 1) (ceilM high.1 (high.2 * level)) := by unfold mx; split <;> omega
      have k7 := scale (w := level * l.w) (mul_nn (Int.le_of_lt hl) (Int.le_of_lt o.w)) k6
      refine can lp ?_
      have e1 : ceilM high.1 (high.2 * level) * (high.2 * level) * l.w = ceilM high.1 (high.2 * level) * (level * l.w) * high.2 := by grind
      have k8 := scale (w := high.2) (Int.le_of_lt lp) k7
      have e2 : mx (low.1 / (low.2 * level) + 1) (ceilM high.1 (high.2 * level)) * level * l.w * high.2 = mx (low.1 / (low.2 * level) + 1) (ceilM high.1 (high.2 * level)) * (level * l.w) * high.2 := by grind
      omega
/-- a flat solid's upper end: the triangle comes to it, less one level -/
theorem tri_top {cell level sn sd : Int} {t : Tr} {i k : Int} {s : Sol} (hc : 0 < cell) (hl : 0 < level) (h : triM cell level sn sd t i k = some s) :
    (∃ l, Ov t (i * cell) (k * cell) ((i + 1) * cell) ((k + 1) * cell) l ∧ (s.2.1 - 1) * level * l.w ≤ l.Y t) ∧ (s.2.2 = none ∨ (flatM t sn sd = true ∧ s.2.2 = some s.2.1)) := by
  have hx : i * cell < (i + 1) * cell := by rw [Int.add_mul]; omega
  have hz : k * cell < (k + 1) * cell := by rw [Int.add_mul]; omega
  unfold triM at h
  cases q : extentM t (i * cell) (k * cell) ((i + 1) * cell) ((k + 1) * cell) with
  | none => rw [q] at h; cases h
  | some e =>
    obtain ⟨low, high⟩ := e
    rw [q] at h
    have h := Option.some.inj h
    subst h
    constructor
    · have L := extent_least (Int.le_of_lt hx) (Int.le_of_lt hz) q
      obtain ⟨lp, _⟩ := heights_sound (Int.le_of_lt hx) (Int.le_of_lt hz) L.inl
      obtain ⟨hp, l, o, e1⟩ := heights_sound (Int.le_of_lt hx) (Int.le_of_lt hz) L.inh
      refine ⟨l, o, ?_⟩
      have k1 := L.high _ L.inl
      simp only at lp hp e1 k1 ⊢
      have hd : 0 < high.2 * level := Int.mul_pos hp hl
      have ld : 0 < low.2 * level := Int.mul_pos lp hl
      -- (hi - 1) * level ≤ high
      have key : (mx (low.1 / (low.2 * level) + 1) (ceilM high.1 (high.2 * level)) - 1) * level * high.2 ≤ high.1 := by
        unfold mx
        split
        · have := (ceil_le (n := high.1) hd).2
          have e2 : (ceilM high.1 (high.2 * level) - 1) * level * high.2 = (ceilM high.1 (high.2 * level) - 1) * (high.2 * level) := by grind
          omega
        · have k2 := (floor_le (n := low.1) ld).1
          have e2 : low.1 / (low.2 * level) + 1 - 1 = low.1 / (low.2 * level) := by omega
          rw [e2]
          refine can lp ?_
          have k3 := scale (w := high.2) (Int.le_of_lt hp) k2
          have e3 : low.1 / (low.2 * level) * level * high.2 * low.2 = low.1 / (low.2 * level) * (low.2 * level) * high.2 := by grind
          omega
      refine can hp ?_
      have k4 := scale (w := l.w) (Int.le_of_lt o.w) key
      have e4 : (mx (low.1 / (low.2 * level) + 1) (ceilM high.1 (high.2 * level)) - 1) * level * l.w * high.2 = (mx (low.1 / (low.2 * level) + 1) (ceilM high.1 (high.2 * level)) - 1) * level * high.2 * l.w := by grind
      omega
    · simp only
      by_cases f : flatM t sn sd = true
      · rw [if_pos f]; exact .inr ⟨f, rfl⟩
      · rw [if_neg f]; exact .inl rfl
end FpM
namespace FpM
/-! ### the measures, columns, floors -/
structure Me where
  columns : Int
  rows : Int
  cell : Int
  level : Int
  width : Int
  tall : Int
  rise : Int
  reach : Int
  slack : Int
  sn : Int
  sd : Int
structure Me.Ok (M : Me) : Prop where
  cell : 0 < M.cell
  level : 0 < M.level
  reach : M.width ≤ M.reach * M.cell
  reach0 : 0 ≤ M.reach
def Me.tri (M : Me) (t : Tr) (i k : Int) : Option Sol := triM M.cell M.level M.sn M.sd t i k
def Me.box (M : Me) (b : Bx) (i k : Int) : Option Sol := boxM M.cell M.level b i k
def Me.cellOver (M : Me) (t : Tr) (i k : Int) (l : Wt) : Prop := Ov t (i * M.cell) (k * M.cell) ((i + 1) * M.cell) ((k + 1) * M.cell) l
structure ColOk (M : Me) (near : List Tr) (close : List Bx) (i k : Int) (outs : List Sol) : Prop where
  tri : ∀ t ∈ near, ∀ s, M.tri t i k = some s → ∃ o ∈ outs, o.1 ≤ s.1 ∧ s.2.1 ≤ o.2.1
  box : ∀ b ∈ close, ∀ s, M.box b i k = some s → ∃ o ∈ outs, o.1 ≤ s.1 ∧ s.2.1 ≤ o.2.1
  top : ∀ o ∈ outs, ∀ tp, o.2.2 = some tp → tp ≤ o.2.1 ∧ ((∃ t ∈ near, ∃ s, M.tri t i k = some s ∧ s.2.2 = some tp) ∨ ∃ b ∈ close, ∃ s, M.box b i k = some s ∧ s.2.2 = some tp)
structure FloorOk (M : Me) (C : Int → Int → List Sol) (i k L : Int) : Prop where
  top : ∃ o ∈ C i k, o.2.1 = L ∧ ∃ tp, o.2.2 = some tp ∧ L - M.slack ≤ tp
  room : ∀ a b, i - M.reach ≤ a → a ≤ i + M.reach → k - M.reach ≤ b → b ≤ k + M.reach →
    (0 ≤ a ∧ a < M.columns ∧ 0 ≤ b ∧ b < M.rows) ∧ ∀ o ∈ C a b, o.2.1 ≤ L + M.rise ∨ L + M.tall ≤ o.1

/-! ### which cells are met -/
def metM (low high cell many : Int) : Option (Int × Int) :=
  if mx (ceilM low cell - 1) 0 ≤ mn (high / cell) (many - 1) then some (mx (ceilM low cell - 1) 0, mn (high / cell) (many - 1)) else none
def min3 (a b c : Int) : Int := min a (min b c)
def max3 (a b c : Int) : Int := max a (max b c)
def rangeM (M : Me) (lx hx lz hz : Int) : Option (Int × Int × Int × Int) := match metM lx hx M.cell M.columns, metM lz hz M.cell M.rows with
  | some a, some d => some (a.1, d.1, a.2, d.2)
  | _, _ => none
def Me.triCells (M : Me) (t : Tr) : Option (Int × Int × Int × Int) :=
  rangeM M (min3 t.a.x t.b.x t.c.x) (max3 t.a.x t.b.x t.c.x) (min3 t.a.z t.b.z t.c.z) (max3 t.a.z t.b.z t.c.z)
def Me.boxCells (M : Me) (b : Bx) : Option (Int × Int × Int × Int) := rangeM M (min b.x0 b.x1) (max b.x0 b.x1) (min b.z0 b.z1) (max b.z0 b.z1)
def overlapM (one : Option (Int × Int × Int × Int)) (i0 k0 i1 k1 : Int) : Bool := match one with
  | none => false
  | some r => decide (r.1 ≤ i1 ∧ i0 ≤ r.2.2.1 ∧ r.2.1 ≤ k1 ∧ k0 ≤ r.2.2.2)
/-- in the grid's range of cells -/
def Me.meets (M : Me) (one : Option (Int × Int × Int × Int)) : Bool := overlapM one 0 0 (M.columns - 1) (M.rows - 1)

theorem ceil_le_of {n u j : Int} (hu : 0 < u) (h : n ≤ j * u) : ceilM n u ≤ j := by
  have := (ceil_le (n := n) hu).2
  have k : (ceilM n u - 1) * u < j * u := by omega
  have := Int.lt_of_mul_lt_mul_right k (by omega)
  omega
theorem met_of {lo hi cell many i : Int} (hc : 0 < cell) (hi0 : 0 ≤ i) (hi1 : i < many) (h1 : lo ≤ (i + 1) * cell) (h2 : i * cell ≤ hi) : ∃ r, metM lo hi cell many = some r ∧ r.1 ≤ many - 1 ∧ 0 ≤ r.2 := by
  have k1 := ceil_le_of hc h1
  have k2 : i ≤ hi / cell := (Int.le_ediv_iff_mul_le hc).mpr h2
  have a1 : mx (ceilM lo cell - 1) 0 ≤ i := by unfold mx; split <;> omega
  have a2 : i ≤ mn (hi / cell) (many - 1) := by unfold mn; split <;> omega
  unfold metM
  rw [if_pos (by omega)]
  exact ⟨_, rfl, by simp only; omega, by simp only; omega⟩
theorem min3_le (a b c : Int) : min3 a b c ≤ a ∧ min3 a b c ≤ b ∧ min3 a b c ≤ c := by unfold min3; omega
theorem le_max3 (a b c : Int) : a ≤ max3 a b c ∧ b ≤ max3 a b c ∧ c ≤ max3 a b c := by unfold max3; omega
theorem tri_meets {M : Me} (ok : M.Ok) {t : Tr} {i k : Int} {l : Wt} (hi : 0 ≤ i ∧ i < M.columns) (hk : 0 ≤ k ∧ k < M.rows) (o : M.cellOver t i k l) : M.meets (M.triCells t) = true := by
  have w := o.w
  have a1 := min3_le t.a.x t.b.x t.c.x
  have a2 := le_max3 t.a.x t.b.x t.c.x
  have a3 := min3_le t.a.z t.b.z t.c.z
  have a4 := le_max3 t.a.z t.b.z t.c.z
  have xl := o.xl
  have xh := o.xh
  have zl := o.zl
  have zh := o.zh
  have b1 : min3 t.a.x t.b.x t.c.x * l.w ≤ l.X t := by
    have := scale o.p a1.1; have := scale o.q a1.2.1; have := scale o.r a1.2.2
    simp only [Wt.w, Wt.X]; grind
  have b2 : l.X t ≤ max3 t.a.x t.b.x t.c.x * l.w := by
    have := scale o.p a2.1; have := scale o.q a2.2.1; have := scale o.r a2.2.2
    simp only [Wt.w, Wt.X]; grind
  have b3 : min3 t.a.z t.b.z t.c.z * l.w ≤ l.Z t := by
    have := scale o.p a3.1; have := scale o.q a3.2.1; have := scale o.r a3.2.2
    simp only [Wt.w, Wt.Z]; grind
  have b4 : l.Z t ≤ max3 t.a.z t.b.z t.c.z * l.w := by
    have := scale o.p a4.1; have := scale o.q a4.2.1; have := scale o.r a4.2.2
    simp only [Wt.w, Wt.Z]; grind
  obtain ⟨r, e1, r1, r2⟩ := met_of (many := M.columns) ok.cell hi.1 hi.2 (can w (show min3 t.a.x t.b.x t.c.x * l.w ≤ (i + 1) * M.cell * l.w by omega)) (can w (show i * M.cell * l.w ≤ max3 t.a.x t.b.x t.c.x * l.w by omega))
  obtain ⟨s, e2, s1, s2⟩ := met_of (many := M.rows) ok.cell hk.1 hk.2 (can w (show min3 t.a.z t.b.z t.c.z * l.w ≤ (k + 1) * M.cell * l.w by omega)) (can w (show k * M.cell * l.w ≤ max3 t.a.z t.b.z t.c.z * l.w by omega))
  unfold Me.triCells rangeM Me.meets
  rw [e1, e2]
  simp only [overlapM]
  exact decide_eq_true ⟨r1, r2, s1, s2⟩
theorem box_meets {M : Me} (ok : M.Ok) {b : Bx} {i k : Int} (hi : 0 ≤ i ∧ i < M.columns) (hk : 0 ≤ k ∧ k < M.rows) (hx : b.x0 ≤ (i + 1) * M.cell ∧ i * M.cell ≤ b.x1) (hz : b.z0 ≤ (k + 1) * M.cell ∧ k * M.cell ≤ b.z1) : M.meets (M.boxCells b) = true := by
  obtain ⟨r, e1, r1, r2⟩ := met_of (lo := min b.x0 b.x1) (hi := max b.x0 b.x1) (many := M.columns) ok.cell hi.1 hi.2 (by omega) (by omega)
  obtain ⟨s, e2, s1, s2⟩ := met_of (lo := min b.z0 b.z1) (hi := max b.z0 b.z1) (many := M.rows) ok.cell hk.1 hk.2 (by omega) (by omega)
  unfold Me.boxCells rangeM Me.meets
  rw [e1, e2]
  simp only [overlapM]
  exact decide_eq_true ⟨r1, r2, s1, s2⟩

/-! ### the cell that a point of the body is over -/
theorem reach_cell {cell reach i x w X W : Int} (hc : 0 < cell) (hW : 0 < W) (h1 : i * cell ≤ x) (h2 : x ≤ i * cell + cell) (hw : w ≤ reach * cell) (k1 : (x - w) * W < X) (k2 : X < (x + w) * W) :
    ∃ j, i - reach ≤ j ∧ j ≤ i + reach ∧ j * cell * W ≤ X ∧ X ≤ (j + 1) * cell * W := by
  have hp : 0 < cell * W := Int.mul_pos hc hW
  refine ⟨X / (cell * W), ?_, ?_, ?_, ?_⟩
  · rw [Int.le_ediv_iff_mul_le hp]
    have a : (i - reach) * cell ≤ x - w := by
      have : (i - reach) * cell = i * cell - reach * cell := by grind
      omega
    have b := scale (w := W) (by omega) a
    have e : (i - reach) * (cell * W) = (i - reach) * cell * W := by grind
    omega
  · have a : x + w ≤ (i + reach + 1) * cell := by
      have : (i + reach + 1) * cell = i * cell + reach * cell + cell := by grind
      omega
    have b := scale (w := W) (by omega) a
    have e : (i + reach + 1) * cell * W = (i + reach + 1) * (cell * W) := by grind
    have := (Int.ediv_lt_iff_lt_mul hp).mpr (show X < (i + reach + 1) * (cell * W) by omega)
    omega
  · have := (floor_le (n := X) hp).1
    have e : X / (cell * W) * (cell * W) = X / (cell * W) * cell * W := by grind
    omega
  · have := (floor_le (n := X) hp).2
    have e : (X / (cell * W) + 1) * (cell * W) = (X / (cell * W) + 1) * cell * W := by grind
    omega
theorem reach_box {cell reach i x w b0 b1 : Int} (hc : 0 < cell) (h1 : i * cell ≤ x) (h2 : x ≤ i * cell + cell) (hw : w ≤ reach * cell) (h0 : 0 < w) (hb : b0 ≤ b1) (k1 : b0 < x + w) (k2 : x - w < b1) :
    ∃ j, i - reach ≤ j ∧ j ≤ i + reach ∧ b0 ≤ (j + 1) * cell ∧ j * cell ≤ b1 := by
  -- a whole number or a half between: twice the coordinates
  obtain ⟨j, a, b, c, d⟩ := reach_cell (X := (max b0 (x - w)) + (min b1 (x + w))) (W := 2) hc (by decide) h1 h2 hw (by omega) (by omega)
  refine ⟨j, a, b, ?_, ?_⟩
  · omega
  · omega

/-! ### the two checks -/
structure HighOf (s : List V4) (v : V4) : Prop where
  mem : v ∈ s
  max : ∀ u ∈ s, u.y * v.w ≤ v.y * u.w
theorem held_tri {M : Me} (ok : M.Ok) {t : Tr} {i k L tp : Int} {s : Sol} (h : M.tri t i k = some s) (ht : s.2.2 = some tp) (h1 : L - M.slack ≤ tp) (h2 : tp ≤ L) :
    flatM t M.sn M.sd = true ∧ overM t (i * M.cell) (k * M.cell) (i * M.cell + M.cell) (k * M.cell + M.cell) ≠ [] ∧
      ∀ v, HighOf (overM t (i * M.cell) (k * M.cell) (i * M.cell + M.cell) (k * M.cell + M.cell)) v → (L - M.slack - 1) * M.level * v.w ≤ v.y ∧ v.y ≤ L * M.level * v.w := by
  have ex : i * M.cell + M.cell = (i + 1) * M.cell := by grind
  have ez : k * M.cell + M.cell = (k + 1) * M.cell := by grind
  rw [ex, ez]
  obtain ⟨⟨l, o, k1⟩, k2⟩ := tri_top ok.cell ok.level h
  rcases k2 with k2 | ⟨f, k2⟩
  · rw [k2] at ht; cases ht
  · rw [k2] at ht
    have e := Option.some.inj ht
    refine ⟨f, fun q => ?_, fun v hv => ?_⟩
    · have := over_complete (n := l.Y t - 1) (d := l.w) o (by rw [q]; intro v hv; exact nomatch hv)
      have w := o.w
      have e2 : (l.Y t - 1) * l.w = l.Y t * l.w - l.w := by grind
      omega
    · obtain ⟨m, om, rfl⟩ := over_sound hv.mem
      have w := o.w
      have wm := om.w
      have hl := ok.level
      constructor
      · have k3 := over_complete (n := (pt t m).y) (d := (pt t m).w) o hv.max
        have e3 : (pt t m).w = m.w := rfl
        rw [e3] at k3 ⊢
        have k4 := scale (w := m.w) (by omega) k1
        have k5 : (L - M.slack - 1) * M.level * l.w ≤ (s.2.1 - 1) * M.level * l.w := by
          have := scale (w := M.level * l.w) (mul_nn (by omega) (by omega)) (show L - M.slack - 1 ≤ s.2.1 - 1 by omega)
          grind
        have k6 := scale (w := m.w) (by omega) k5
        refine can w ?_
        have e4 : (L - M.slack - 1) * M.level * m.w * l.w = (L - M.slack - 1) * M.level * l.w * m.w := by grind
        omega
      · obtain ⟨s', hs', _, k3⟩ := tri_cover (sn := M.sn) (sd := M.sd) ok.cell ok.level om
        have es : s' = s := Option.some.inj (hs'.symm.trans h)
        rw [es] at k3
        have := scale (w := M.level * m.w) (mul_nn (by omega) (by omega)) (show s.2.1 ≤ L by omega)
        show m.Y t ≤ L * M.level * m.w
        grind
def BoxNear (M : Me) (b : Bx) (i k : Int) : Prop := (b.x0 ≤ i * M.cell + M.cell ∧ i * M.cell ≤ b.x1) ∧ b.z0 ≤ k * M.cell + M.cell ∧ k * M.cell ≤ b.z1
theorem held_box {M : Me} (ok : M.Ok) {b : Bx} {i k L tp : Int} {s : Sol} (h : M.box b i k = some s) (ht : s.2.2 = some tp) (h1 : L - M.slack ≤ tp) (h2 : tp ≤ L) :
    b.flat = true ∧ BoxNear M b i k ∧ (L - M.slack - 1) * M.level ≤ b.y1 ∧ b.y1 ≤ L * M.level := by
  unfold Me.box boxM at h
  split at h
  · cases h
  · rename_i hn
    have h := Option.some.inj h
    subst h
    simp only at ht
    split at ht
    · rename_i f
      have e := Option.some.inj ht
      have kc := ceil_le (n := b.y1) ok.level
      rw [e] at kc
      refine ⟨f, ?_, ?_, ?_⟩
      · unfold BoxNear
        have ex : i * M.cell + M.cell = (i + 1) * M.cell := by grind
        have ez : k * M.cell + M.cell = (k + 1) * M.cell := by grind
        omega
      · have := scale (w := M.level) (Int.le_of_lt ok.level) (show L - M.slack - 1 ≤ tp - 1 by omega)
        omega
      · have := scale (w := M.level) (Int.le_of_lt ok.level) h2
        omega
    · cases ht
/-- THE FIRST CHECK -/
theorem floor_held {M : Me} (ok : M.Ok) {near : List Tr} {close : List Bx} {C : Int → Int → List Sol} {i k L : Int} (hC : ColOk M near close i k (C i k)) (F : FloorOk M C i k L) :
    (∃ t ∈ near, flatM t M.sn M.sd = true ∧ overM t (i * M.cell) (k * M.cell) (i * M.cell + M.cell) (k * M.cell + M.cell) ≠ [] ∧
      ∀ v, HighOf (overM t (i * M.cell) (k * M.cell) (i * M.cell + M.cell) (k * M.cell + M.cell)) v → (L - M.slack - 1) * M.level * v.w ≤ v.y ∧ v.y ≤ L * M.level * v.w) ∨
    ∃ b ∈ close, b.flat = true ∧ BoxNear M b i k ∧ (L - M.slack - 1) * M.level ≤ b.y1 ∧ b.y1 ≤ L * M.level := by
  obtain ⟨o, ho, e, tp, h1, h2⟩ := F.top
  obtain ⟨h3, h4⟩ := hC.top o ho tp h1
  rcases h4 with ⟨t, ht, s, hs, e2⟩ | ⟨b, hb, s, hs, e2⟩
  · exact .inl ⟨t, ht, held_tri ok hs e2 h2 (by omega)⟩
  · exact .inr ⟨b, hb, held_box ok hs e2 h2 (by omega)⟩
/-- THE SECOND CHECK, triangles -/
theorem floor_safe_tri {M : Me} (ok : M.Ok) {near : List Tr} {close : List Bx} {C : Int → Int → List Sol} {i k L x z : Int} (hC : ∀ a b, 0 ≤ a → a < M.columns → 0 ≤ b → b < M.rows → ColOk M near close a b (C a b)) (F : FloorOk M C i k L)
    (hx : i * M.cell ≤ x ∧ x ≤ i * M.cell + M.cell) (hz : k * M.cell ≤ z ∧ z ≤ k * M.cell + M.cell) {t : Tr} (ht : M.meets (M.triCells t) = true → t ∈ near) {l : Wt}
    (h : Inside t (x - M.width) ((L + M.rise) * M.level) (z - M.width) (x + M.width) ((L + M.tall) * M.level) (z + M.width) l) : False := by
  obtain ⟨a, a1, a2, a3, a4⟩ := reach_cell ok.cell h.w hx.1 hx.2 ok.reach h.x.1 h.x.2
  obtain ⟨b, b1, b2, b3, b4⟩ := reach_cell ok.cell h.w hz.1 hz.2 ok.reach h.z.1 h.z.2
  obtain ⟨⟨g1, g2, g3, g4⟩, free⟩ := F.room a b a1 a2 b1 b2
  have o : M.cellOver t a b l := ⟨h.p, h.q, h.r, h.w, a3, a4, b3, b4⟩
  have hn := ht (tri_meets ok ⟨g1, g2⟩ ⟨g3, g4⟩ o)
  obtain ⟨s, hs, k1, k2⟩ := tri_cover (sn := M.sn) (sd := M.sd) ok.cell ok.level o
  obtain ⟨c, hc, c1, c2⟩ := (hC a b g1 g2 g3 g4).tri t hn s hs
  have w := h.w
  have y := h.y
  have lw : 0 < M.level * l.w := Int.mul_pos ok.level w
  have e1 : L + M.rise < s.2.1 := by
    refine Int.lt_of_mul_lt_mul_right (a := M.level * l.w) ?_ (by omega)
    have : (L + M.rise) * M.level * l.w = (L + M.rise) * (M.level * l.w) := by grind
    have : s.2.1 * M.level * l.w = s.2.1 * (M.level * l.w) := by grind
    omega
  have e2 : s.1 < L + M.tall := by
    refine Int.lt_of_mul_lt_mul_right (a := M.level * l.w) ?_ (by omega)
    have : (L + M.tall) * M.level * l.w = (L + M.tall) * (M.level * l.w) := by grind
    have : s.1 * M.level * l.w = s.1 * (M.level * l.w) := by grind
    omega
  have := free c hc
  omega
/-- THE SECOND CHECK, boxes -/
theorem floor_safe_box {M : Me} (ok : M.Ok) {near : List Tr} {close : List Bx} {C : Int → Int → List Sol} {i k L x z : Int} (hC : ∀ a b, 0 ≤ a → a < M.columns → 0 ≤ b → b < M.rows → ColOk M near close a b (C a b)) (F : FloorOk M C i k L) (hw : 0 < M.width)
    (hx : i * M.cell ≤ x ∧ x ≤ i * M.cell + M.cell) (hz : k * M.cell ≤ z ∧ z ≤ k * M.cell + M.cell) {b : Bx} (hb : M.meets (M.boxCells b) = true → b ∈ close) (h0 : b.x0 ≤ b.x1 ∧ b.y0 ≤ b.y1 ∧ b.z0 ≤ b.z1)
    (h1 : b.x0 < x + M.width ∧ x - M.width < b.x1) (h2 : b.y0 < (L + M.tall) * M.level ∧ (L + M.rise) * M.level < b.y1) (h3 : b.z0 < z + M.width ∧ z - M.width < b.z1) : False := by
  obtain ⟨a, a1, a2, a3, a4⟩ := reach_box ok.cell hx.1 hx.2 ok.reach hw h0.1 h1.1 h1.2
  obtain ⟨c, c1, c2, c3, c4⟩ := reach_box ok.cell hz.1 hz.2 ok.reach hw h0.2.2 h3.1 h3.2
  obtain ⟨⟨g1, g2, g3, g4⟩, free⟩ := F.room a c a1 a2 c1 c2
  have hn := hb (box_meets ok ⟨g1, g2⟩ ⟨g3, g4⟩ ⟨a3, a4⟩ ⟨c3, c4⟩)
  have hs : M.box b a c = some (b.y0 / M.level, ceilM b.y1 M.level, if b.flat then some (ceilM b.y1 M.level) else none) := by
    unfold Me.box boxM
    rw [if_neg (by omega)]
  obtain ⟨o, ho, o1, o2⟩ := (hC a c g1 g2 g3 g4).box b hn _ hs
  simp only at o1 o2
  have k1 := (floor_le (n := b.y0) ok.level).1
  have k2 := (ceil_le (n := b.y1) ok.level).1
  have e1 : b.y0 / M.level < L + M.tall := Int.lt_of_mul_lt_mul_right (a := M.level) (by omega) (Int.le_of_lt ok.level)
  have e2 : L + M.rise < ceilM b.y1 M.level := Int.lt_of_mul_lt_mul_right (a := M.level) (by omega) (Int.le_of_lt ok.level)
  have := free o ho
  omega
end FpM
namespace FpM
/-! ### solids merged -/
def higherM (a b : Option Int) : Option Int := match a, b with
  | none, b => b
  | some a, none => some a
  | some a, some b => if b > a then some b else some a
def joinM (l s : Sol) : Sol := (l.1, mx l.2.1 s.2.1, higherM l.2.2 s.2.2)
/-- what is found, the last one first -/
def stepM : List Sol → Sol → List Sol
  | [], s => [s]
  | l :: r, s => if s.1 ≤ l.2.1 then joinM l s :: r else s :: l :: r
structure MOk (ins outs : List Sol) : Prop where
  cover : ∀ s ∈ ins, ∃ o ∈ outs, o.1 ≤ s.1 ∧ s.2.1 ≤ o.2.1
  top : ∀ o ∈ outs, ∀ tp, o.2.2 = some tp → tp ≤ o.2.1 ∧ ∃ s ∈ ins, s.2.2 = some tp
  low : ∀ o ∈ outs, ∃ s ∈ ins, s.1 = o.1
  len : outs.length ≤ ins.length
theorem MOk.nil : MOk [] [] := ⟨fun _ h => absurd h (by simp), fun _ h => absurd h (by simp), fun _ h => absurd h (by simp), Nat.le_refl _⟩
theorem higherM_cases (a b : Option Int) : higherM a b = a ∨ higherM a b = b := by
  cases a <;> cases b <;> simp only [higherM, or_self, or_true, true_or]
  split <;> simp
theorem le_mx (i j : Int) : i ≤ mx i j ∧ j ≤ mx i j := by unfold mx; split <;> omega
theorem MOk.step {ins outs : List Sol} {s : Sol} (h : MOk ins outs) (hs : ∀ t ∈ ins, t.1 ≤ s.1) (ht : ∀ tp, s.2.2 = some tp → tp ≤ s.2.1) : MOk (ins ++ [s]) (stepM outs s) := by
  have one : MOk (ins ++ [s]) (s :: outs) := by
    refine ⟨fun t hm => ?_, fun o hm tp e => ?_, fun o hm => ?_, by simpa using h.len⟩
    · rcases List.mem_append.mp hm with hm | hm
      · obtain ⟨o, ho, q⟩ := h.cover t hm
        exact ⟨o, List.mem_cons_of_mem _ ho, q⟩
      · rw [List.mem_singleton.mp hm]
        exact ⟨s, List.mem_cons_self, Int.le_refl _, Int.le_refl _⟩
    · rcases List.mem_cons.mp hm with rfl | hm
      · exact ⟨ht tp e, _, List.mem_append_right _ (List.mem_singleton.mpr rfl), e⟩
      · obtain ⟨q, t, k, z⟩ := h.top o hm tp e
        exact ⟨q, t, List.mem_append_left _ k, z⟩
    · rcases List.mem_cons.mp hm with rfl | hm
      · exact ⟨_, List.mem_append_right _ (List.mem_singleton.mpr rfl), rfl⟩
      · obtain ⟨t, k, z⟩ := h.low o hm
        exact ⟨t, List.mem_append_left _ k, z⟩
  cases outs with
  | nil => exact one
  | cons l r =>
    show MOk _ (if s.1 ≤ l.2.1 then joinM l s :: r else s :: l :: r)
    split
    · rename_i hle
      have m1 := le_mx l.2.1 s.2.1
      have hl : l.1 ≤ s.1 := by
        obtain ⟨t, k, z⟩ := h.low l List.mem_cons_self
        have := hs t k
        omega
      refine ⟨fun t hm => ?_, fun o hm tp e => ?_, fun o hm => ?_, ?_⟩
      · rcases List.mem_append.mp hm with hm | hm
        · obtain ⟨o, ho, q1, q2⟩ := h.cover t hm
          rcases List.mem_cons.mp ho with rfl | ho
          · exact ⟨joinM o s, List.mem_cons_self, q1, Int.le_trans q2 m1.1⟩
          · exact ⟨o, List.mem_cons_of_mem _ ho, q1, q2⟩
        · rw [List.mem_singleton.mp hm]
          exact ⟨joinM l s, List.mem_cons_self, hl, m1.2⟩
      · rcases List.mem_cons.mp hm with rfl | hm
        · have e : higherM l.2.2 s.2.2 = some tp := e
          rcases higherM_cases l.2.2 s.2.2 with q | q
          · rw [q] at e
            obtain ⟨q1, t, k, z⟩ := h.top l List.mem_cons_self tp e
            exact ⟨Int.le_trans q1 m1.1, t, List.mem_append_left _ k, z⟩
          · rw [q] at e
            exact ⟨Int.le_trans (ht tp e) m1.2, s, List.mem_append_right _ (List.mem_singleton.mpr rfl), e⟩
        · obtain ⟨q, t, k, z⟩ := h.top o (List.mem_cons_of_mem _ hm) tp e
          exact ⟨q, t, List.mem_append_left _ k, z⟩
      · rcases List.mem_cons.mp hm with rfl | hm
        · obtain ⟨t, k, z⟩ := h.low l List.mem_cons_self
          exact ⟨t, List.mem_append_left _ k, z⟩
        · obtain ⟨t, k, z⟩ := h.low o (List.mem_cons_of_mem _ hm)
          exact ⟨t, List.mem_append_left _ k, z⟩
      · have := h.len
        simp at this ⊢
        omega
    · exact one
/-- what merging promises: the order of outs apart -/
structure Mg (ins outs : List Sol) : Prop where
  cover : ∀ s ∈ ins, ∃ o ∈ outs, o.1 ≤ s.1 ∧ s.2.1 ≤ o.2.1
  top : ∀ o ∈ outs, ∀ tp, o.2.2 = some tp → tp ≤ o.2.1 ∧ ∃ s ∈ ins, s.2.2 = some tp
  len : outs.length ≤ ins.length
theorem MOk.mg {ins ins' outs : List Sol} (h : MOk ins outs) (p : ins.Perm ins') : Mg ins' outs.reverse :=
  ⟨fun s hs => by
    obtain ⟨o, ho, q⟩ := h.cover s (p.mem_iff.mpr hs)
    exact ⟨o, List.mem_reverse.mpr ho, q⟩, fun o ho tp e => by
    obtain ⟨q, s, k, z⟩ := h.top o (List.mem_reverse.mp ho) tp e
    exact ⟨q, s, p.mem_iff.mp k, z⟩, by rw [List.length_reverse, ← p.length_eq]; exact h.len⟩
theorem tri_tops {M : Me} {t : Tr} {i k : Int} {s : Sol} (h : M.tri t i k = some s) : ∀ tp, s.2.2 = some tp → tp ≤ s.2.1 := by
  intro tp e
  unfold Me.tri triM at h
  split at h
  · cases h
  · have h := Option.some.inj h
    subst h
    simp only at e ⊢
    split at e
    · rw [Option.some.inj e]; exact Int.le_refl _
    · cases e
theorem box_tops {M : Me} {b : Bx} {i k : Int} {s : Sol} (h : M.box b i k = some s) : ∀ tp, s.2.2 = some tp → tp ≤ s.2.1 := by
  intro tp e
  unfold Me.box boxM at h
  split at h
  · cases h
  · have h := Option.some.inj h
    subst h
    simp only at e ⊢
    split at e
    · rw [Option.some.inj e]; exact Int.le_refl _
    · cases e
theorem Mg.col {M : Me} {near : List Tr} {close : List Bx} {i k : Int} {ins outs : List Sol} (h : Mg ins outs) (hi : ∀ s, s ∈ ins ↔ (∃ t ∈ near, M.tri t i k = some s) ∨ ∃ b ∈ close, M.box b i k = some s) : ColOk M near close i k outs :=
  ⟨fun t ht s e => h.cover s ((hi s).mpr (.inl ⟨t, ht, e⟩)), fun b hb s e => h.cover s ((hi s).mpr (.inr ⟨b, hb, e⟩)), fun o ho tp e => by
    obtain ⟨q, s, hs, z⟩ := h.top o ho tp e
    refine ⟨q, ?_⟩
    rcases (hi s).mp hs with ⟨t, ht, e⟩ | ⟨b, hb, e⟩
    · exact .inl ⟨t, ht, s, e, z⟩
    · exact .inr ⟨b, hb, s, e, z⟩⟩
end FpM
namespace FpM
/-! ### a floor's level is bounded -/
def YOk (t : Tr) : Prop := (-900 ≤ t.a.y ∧ t.a.y ≤ 900) ∧ (-900 ≤ t.b.y ∧ t.b.y ≤ 900) ∧ -900 ≤ t.c.y ∧ t.c.y ≤ 900
theorem tri_level {M : Me} (ok : M.Ok) {t : Tr} {i k tp : Int} {s : Sol} (h : M.tri t i k = some s) (ht : s.2.2 = some tp) (y : YOk t) : -900 ≤ tp * M.level ∧ (tp - 1) * M.level ≤ 900 := by
  obtain ⟨⟨l, o, k1⟩, k2⟩ := tri_top ok.cell ok.level h
  rcases k2 with k2 | ⟨f, k2⟩
  · rw [k2] at ht; cases ht
  · rw [k2] at ht
    have e := Option.some.inj ht
    subst e
    obtain ⟨s', hs', _, k3⟩ := tri_cover (sn := M.sn) (sd := M.sd) ok.cell ok.level o
    have es : s' = s := Option.some.inj (hs'.symm.trans h)
    rw [es] at k3
    have w := o.w
    have a1 := scale o.p y.1.1
    have a2 := scale o.p y.1.2
    have b1 := scale o.q y.2.1.1
    have b2 := scale o.q y.2.1.2
    have c1 := scale o.r y.2.2.1
    have c2 := scale o.r y.2.2.2
    have y1 : -900 * l.w ≤ l.Y t := by simp only [Wt.w, Wt.Y]; grind
    have y2 : l.Y t ≤ 900 * l.w := by simp only [Wt.w, Wt.Y]; grind
    exact ⟨can w (by omega), can w (by omega)⟩
theorem box_level {M : Me} (ok : M.Ok) {b : Bx} {i k tp : Int} {s : Sol} (h : M.box b i k = some s) (ht : s.2.2 = some tp) (y : -900 ≤ b.y1 ∧ b.y1 ≤ 900) : -900 ≤ tp * M.level ∧ (tp - 1) * M.level ≤ 900 := by
  unfold Me.box boxM at h
  split at h
  · cases h
  · have h := Option.some.inj h
    subst h
    simp only at ht
    split at ht
    · have e := Option.some.inj ht
      have kc := ceil_le (n := b.y1) ok.level
      rw [e] at kc
      omega
    · cases ht
theorem level_bound {M : Me} (ok : M.Ok) (hl : M.level ≤ 5) (hs : 0 ≤ M.slack ∧ M.slack ≤ 3) {near : List Tr} {close : List Bx} {C : Int → Int → List Sol} {i k L : Int} (hC : ColOk M near close i k (C i k)) (F : FloorOk M C i k L)
    (ht : ∀ t ∈ near, YOk t) (hb : ∀ b ∈ close, -900 ≤ b.y1 ∧ b.y1 ≤ 900) : -900 ≤ L * M.level ∧ L * M.level ≤ 920 := by
  obtain ⟨o, ho, e, tp, h1, h2⟩ := F.top
  obtain ⟨h3, h4⟩ := hC.top o ho tp h1
  have key : -900 ≤ tp * M.level ∧ (tp - 1) * M.level ≤ 900 := by
    rcases h4 with ⟨t, m, s, hs, e2⟩ | ⟨b, m, s, hs, e2⟩
    · exact tri_level ok hs e2 (ht t m)
    · exact box_level ok hs e2 (hb b m)
  have l0 := ok.level
  have k1 := scale (w := M.level) (by omega) (show tp ≤ L by omega)
  have k2 := scale (w := M.level) (by omega) (show L - M.slack - 1 ≤ tp - 1 by omega)
  have k3 := scale (w := M.level) (by omega) (show M.slack + 1 ≤ 4 by omega)
  have e3 : (L - M.slack - 1) * M.level = L * M.level - (M.slack + 1) * M.level := by grind
  omega
/-! ### what the checks ask -/
def HeldT (M : Me) (i k L : Int) (t : Tr) : Prop := flatM t M.sn M.sd = true ∧ overM t (i * M.cell) (k * M.cell) (i * M.cell + M.cell) (k * M.cell + M.cell) ≠ [] ∧
  ∀ v, HighOf (overM t (i * M.cell) (k * M.cell) (i * M.cell + M.cell) (k * M.cell + M.cell)) v → (L - M.slack - 1) * M.level * v.w ≤ v.y ∧ v.y ≤ L * M.level * v.w
def HeldB (M : Me) (i k L : Int) (b : Bx) : Prop := b.flat = true ∧ BoxNear M b i k ∧ (L - M.slack - 1) * M.level ≤ b.y1 ∧ b.y1 ≤ L * M.level
def TouchB (b : Bx) (x0 y0 z0 x1 y1 z1 : Int) : Prop := (b.x0 < x1 ∧ x0 < b.x1) ∧ (b.y0 < y1 ∧ y0 < b.y1) ∧ b.z0 < z1 ∧ z0 < b.z1
theorem HighOf.next {s r : List V4} {hi u : V4} (wp : ∀ v ∈ s, 0 < v.w) (hr : ∀ v ∈ r, v ∈ s) (mh : hi ∈ s) (mu : u ∈ s) (h : ∀ v ∈ r, v.y * hi.w ≤ hi.y * v.w) :
    (hi.y * u.w < u.y * hi.w → ∀ v ∈ r ++ [u], v.y * u.w ≤ u.y * v.w) ∧ (¬ hi.y * u.w < u.y * hi.w → ∀ v ∈ r ++ [u], v.y * hi.w ≤ hi.y * v.w) := by
  constructor
  · intro c v hv
    rcases List.mem_append.mp hv with hv | hv
    · exact frac_trans (a := (v.y, v.w)) (b := (hi.y, hi.w)) (c := (u.y, u.w)) (wp v (hr v hv)) (wp hi mh) (wp u mu) (h v hv) (by simp only; omega)
    · rw [List.mem_singleton.mp hv]; exact Int.le_refl _
  · intro c v hv
    rcases List.mem_append.mp hv with hv | hv
    · exact h v hv
    · rw [List.mem_singleton.mp hv]; omega
end FpM
namespace Fp
open PySem PySem.Spec PyProof.Rows L2
section
/-! ### loops and comprehensions -/
/-- all but D stays -/
def Bt (D : Addr) (H H' : Hp) : Prop := ∀ b o, b ≠ D → H b = some o → H' b = some o
theorem Bt.of {D : Addr} {H H' : Hp} (s : Same H H') : Bt D H H' := fun b o _ h => s b o h
theorem Bt.upd {D : Addr} {H : Hp} {o : HO} : Bt D H (upd H D o) := fun b u n h => by rw [upd_ne n]; exact h
theorem Bt.trans {D : Addr} {H H1 H2 : Hp} (a : Bt D H H1) (b : Bt D H1 H2) : Bt D H H2 := fun c o n h => b c o n (a c o n h)
theorem Bt.refl {D : Addr} {H : Hp} : Bt D H H := fun _ _ _ h => h
/-! tuples never change -/
def Tk (H H' : Hp) : Prop := ∀ a xs, H a = some (.tup xs) → H' a = some (.tup xs)
theorem Tk.refl (H : Hp) : Tk H H := fun _ _ h => h
theorem Tk.of {H H' : Hp} (s : Same H H') : Tk H H' := fun _ _ h => s _ _ h
theorem Tk.trans {H H1 H2 : Hp} (a : Tk H H1) (b : Tk H1 H2) : Tk H H2 := fun _ _ h => b _ _ (a _ _ h)
theorem Tk.lst {H : Hp} {D : Addr} {xs : List V} {o : HO} (h : H D = some (.lst xs)) : Tk H (upd H D o) := fun _ _ e => upd_tup h e
theorem Tk.new {H : Hp} {D : Addr} {o : HO} (h : H D = none) : Tk H (upd H D o) := fun _ _ e => upd_new h e
section
variable {K : PySem.W.Frag} {σ : L2.St} {H : Hp} {wi : TI} {g : TG} {tt : TT} {te tl : TE} {vs : List Nat} {Q : VK} {R : It → Hp → Prop} {a : Addr} {xs : List V} {tA : TA} {D : Addr} {Qd : Hp → Prop}
theorem i_lc (h : wi σ H fun J H1 => ∀ D, H1 D = none → ∃ W : Nat → Nat → Hp → Prop, (∃ m, W 0 m (upd H1 D (.lst []))) ∧ ∀ i m H, W i m H →
  (J.stop i H ∧ Q (.ref D) H) ∨ (J.go i H ∧ ∃ Nx : Hp → Prop, (∀ H', Nx H' → ∃ m', m' < m ∧ W (i + 1) m' H') ∧ ∀ x H', J.yld i H x H' → g x (wipe σ vs) H' fun σ2 H2 => wipe σ2 vs = wipe σ vs ∧ tt σ2 H2 fun b H3 =>
    if b = true then te σ2 H3 fun y H4 => ∃ acc, H4 D = some (.lst acc) ∧ acc.length < sizeLine ∧ Nx (upd H4 D (.lst (acc ++ [y]))) else Nx H3)) : tLc wi g tt te vs σ H Q := h
theorem i_for {tb : TS} {De : Ends} (h : wi σ H fun J H1 => ∃ W : Nat → Nat → L2.St → Hp → Prop, (∃ m, W 0 m σ H1) ∧ ∀ i m σ H, W i m σ H →
  (J.stop i H ∧ De.nx σ H) ∨ (J.go i H ∧ ∃ N : L2.St → Hp → Prop, (∀ σ' H', N σ' H' → ∃ m', m' < m ∧ W (i + 1) m' σ' H') ∧ ∀ x H', J.yld i H x H' → g x σ H' fun σ2 H2 => tb { De with nx := N, ct := N, bk := De.nx } σ2 H2)) : tFor wi g tb De σ H := h
theorem i_iL (h : tl σ H fun x H1 => ∃ a, x = .ref a ∧ (∃ xs, SqL K H1 a xs) ∧ R (Itl K a) H1) : iList K tl σ H R := h
theorem i_iT (h : tl σ H fun x H1 => ∃ a, x = .ref a ∧ (∃ xs, SqT K H1 a xs) ∧ R (Itt K a) H1) : iTup K tl σ H R := h
theorem i_srcL (s : H a = some (.lst xs)) (h : R (Itl K a) H) : ∃ b, V.ref a = .ref b ∧ (∃ xs, SqL K H b xs) ∧ R (Itl K b) H := ⟨a, rfl, ⟨xs, SqL.of s⟩, h⟩
theorem i_srcT (s : H a = some (.tup xs)) (h : R (Itt K a) H) : ∃ b, V.ref a = .ref b ∧ (∃ xs, SqT K H b xs) ∧ R (Itt K b) H := ⟨a, rfl, ⟨xs, SqT.of s⟩, h⟩
theorem i_rng1 (h : tA σ H fun vs H1 => ∃ j : Int, vs = [.int j] ∧ -(2 ^ 62) ≤ j ∧ j < 2 ^ 62 ∧ R (Itr 0 j.toNat) H1) : iRng1 tA σ H R := h
theorem i_rng2 (h : tA σ H fun vs H1 => ∃ i j : Int, vs = [.int i, .int j] ∧ (-(2 ^ 62) ≤ i ∧ i < 2 ^ 62 ∧ -(2 ^ 62) ≤ j ∧ j < 2 ^ 62) ∧ R (Itr i (j - i).toNat) H1) : iRng2 tA σ H R := h
theorem i_src1 {j : Int} (h1 : -1000000000 ≤ j ∧ j ≤ 1000000000) (h : R (Itr 0 j.toNat) H) : ∃ i : Int, [V.int j] = [.int i] ∧ -(2 ^ 62) ≤ i ∧ i < 2 ^ 62 ∧ R (Itr 0 i.toNat) H := ⟨j, rfl, by omega, by omega, h⟩
theorem i_src2 {i j : Int} (h1 : -1000000000 ≤ i ∧ i ≤ 1000000000) (h2 : -1000000000 ≤ j ∧ j ≤ 1000000000) (h : R (Itr i (j - i).toNat) H) :
    ∃ i' j' : Int, [V.int i, V.int j] = [.int i', .int j'] ∧ (-(2 ^ 62) ≤ i' ∧ i' < 2 ^ 62 ∧ -(2 ^ 62) ≤ j' ∧ j' < 2 ^ 62) ∧ R (Itr i' (j' - i').toNat) H := ⟨i, j, rfl, ⟨by omega, by omega, by omega, by omega⟩, h⟩
theorem i_yes {F : Bool → Hp → Prop} {σ : L2.St} (h : F true H) : tYes σ H F := h

/-! comprehensions that give each item something -/
theorem lc_mapL (s : H a = some (.lst xs)) (hD : H D = none) (hz : xs.length < sizeLine) (E : Nat → V → Hp → Prop) (st : ∀ i y H1 H2, E i y H1 → Bt D H1 H2 → E i y H2)
    (turn : ∀ i x H' (C : VK) (G : Hp → Prop), xs[i]? = some x → Same H H' → (∃ acc, H' D = some (.lst acc)) → (∀ y H4, Same H' H4 → E i y H4 → C y H4) →
      g x (wipe σ vs) H' fun σ2 H2 => wipe σ2 vs = wipe σ vs ∧ tt σ2 H2 fun b H3 => if b = true then te σ2 H3 C else G H3)
    (done : ∀ ys H', Same H H' → H' D = some (.lst ys) → ys.length = xs.length → (∀ i y, ys[i]? = some y → E i y H') → Qd H') :
    ∃ W : Nat → Nat → Hp → Prop, (∃ m, W 0 m (upd H D (.lst []))) ∧ ∀ i m H, W i m H →
      ((Itl K a).stop i H ∧ Qd H) ∨ ((Itl K a).go i H ∧ ∃ Nx : Hp → Prop, (∀ H', Nx H' → ∃ m', m' < m ∧ W (i + 1) m' H') ∧ ∀ x H', (Itl K a).yld i H x H' → g x (wipe σ vs) H' fun σ2 H2 => wipe σ2 vs = wipe σ vs ∧ tt σ2 H2 fun b H3 =>
        if b = true then te σ2 H3 fun y H4 => ∃ acc, H4 D = some (.lst acc) ∧ acc.length < sizeLine ∧ Nx (upd H4 D (.lst (acc ++ [y]))) else Nx H3) := by
  refine lc_list (xs := xs) (fun i H' => Same H H' ∧ ∃ ys, H' D = some (.lst ys) ∧ ys.length = i ∧ ∀ j y, ys[j]? = some y → E j y H') ⟨same_new hD, [], upd_same, rfl, fun j y h => by simp at h⟩ (fun i H' _ p => SqL.of (p.1 _ _ s)) (fun i x H' hx ⟨sm, ys, hy, hl, he⟩ => ?_) fun H' ⟨sm, ys, hy, hl, he⟩ => done ys H' sm hy hl he
  refine turn i x H' _ _ hx sm ⟨ys, hy⟩ fun y H4 s4 e4 => ⟨ys, s4 _ _ hy, ?_, same_mut hD (sm.trans s4), ys ++ [y], upd_same, by simp [hl], fun j z hj => ?_⟩
  · have := (List.getElem?_eq_some_iff.mp hx).1
    omega
  · by_cases hj' : j < ys.length
    · rw [List.getElem?_append_left hj'] at hj
      exact st _ _ _ _ (he j z hj) ((Bt.of s4).trans Bt.upd)
    · rw [List.getElem?_append_right (by omega)] at hj
      have e0 : j - ys.length = 0 := by
        apply Classical.byContradiction
        intro q
        rw [List.getElem?_eq_none (by simp; omega)] at hj
        cases hj
      rw [e0] at hj
      have : y = z := by simpa using hj
      subst this
      have : j = i := by omega
      subst this
      exact st _ _ _ _ e4 Bt.upd
theorem lc_mapT (s : H a = some (.tup xs)) (hD : H D = none) (hz : xs.length < sizeLine) (E : Nat → V → Hp → Prop) (st : ∀ i y H1 H2, E i y H1 → Bt D H1 H2 → E i y H2)
    (turn : ∀ i x H' (C : VK) (G : Hp → Prop), xs[i]? = some x → Same H H' → (∃ acc, H' D = some (.lst acc)) → (∀ y H4, Same H' H4 → E i y H4 → C y H4) →
      g x (wipe σ vs) H' fun σ2 H2 => wipe σ2 vs = wipe σ vs ∧ tt σ2 H2 fun b H3 => if b = true then te σ2 H3 C else G H3)
    (done : ∀ ys H', Same H H' → H' D = some (.lst ys) → ys.length = xs.length → (∀ i y, ys[i]? = some y → E i y H') → Qd H') :
    ∃ W : Nat → Nat → Hp → Prop, (∃ m, W 0 m (upd H D (.lst []))) ∧ ∀ i m H, W i m H →
      ((Itt K a).stop i H ∧ Qd H) ∨ ((Itt K a).go i H ∧ ∃ Nx : Hp → Prop, (∀ H', Nx H' → ∃ m', m' < m ∧ W (i + 1) m' H') ∧ ∀ x H', (Itt K a).yld i H x H' → g x (wipe σ vs) H' fun σ2 H2 => wipe σ2 vs = wipe σ vs ∧ tt σ2 H2 fun b H3 =>
        if b = true then te σ2 H3 fun y H4 => ∃ acc, H4 D = some (.lst acc) ∧ acc.length < sizeLine ∧ Nx (upd H4 D (.lst (acc ++ [y]))) else Nx H3) := by
  refine lc_tup (xs := xs) (fun i H' => Same H H' ∧ ∃ ys, H' D = some (.lst ys) ∧ ys.length = i ∧ ∀ j y, ys[j]? = some y → E j y H') ⟨same_new hD, [], upd_same, rfl, fun j y h => by simp at h⟩ (fun i H' _ p => SqT.of (p.1 _ _ s)) (fun i x H' hx ⟨sm, ys, hy, hl, he⟩ => ?_) fun H' ⟨sm, ys, hy, hl, he⟩ => done ys H' sm hy hl he
  refine turn i x H' _ _ hx sm ⟨ys, hy⟩ fun y H4 s4 e4 => ⟨ys, s4 _ _ hy, ?_, same_mut hD (sm.trans s4), ys ++ [y], upd_same, by simp [hl], fun j z hj => ?_⟩
  · have := (List.getElem?_eq_some_iff.mp hx).1
    omega
  · by_cases hj' : j < ys.length
    · rw [List.getElem?_append_left hj'] at hj
      exact st _ _ _ _ (he j z hj) ((Bt.of s4).trans Bt.upd)
    · rw [List.getElem?_append_right (by omega)] at hj
      have e0 : j - ys.length = 0 := by
        apply Classical.byContradiction
        intro q
        rw [List.getElem?_eq_none (by simp; omega)] at hj
        cases hj
      rw [e0] at hj
      have : y = z := by simpa using hj
      subst this
      have : j = i := by omega
      subst this
      exact st _ _ _ _ e4 Bt.upd
theorem lc_mapR {lo : Int} {n : Nat} (hD : H D = none) (hz : n < sizeLine) (E : Nat → V → Hp → Prop) (st : ∀ i y H1 H2, E i y H1 → Bt D H1 H2 → E i y H2)
    (turn : ∀ (i : Nat) H' (C : VK) (G : Hp → Prop), i < n → Same H H' → (∃ acc, H' D = some (.lst acc)) → (∀ y H4, Same H' H4 → E i y H4 → C y H4) →
      g (.int (lo + i)) (wipe σ vs) H' fun σ2 H2 => wipe σ2 vs = wipe σ vs ∧ tt σ2 H2 fun b H3 => if b = true then te σ2 H3 C else G H3)
    (done : ∀ ys H', Same H H' → H' D = some (.lst ys) → ys.length = n → (∀ i y, ys[i]? = some y → E i y H') → Qd H') :
    ∃ W : Nat → Nat → Hp → Prop, (∃ m, W 0 m (upd H D (.lst []))) ∧ ∀ i m H, W i m H →
      ((Itr lo n).stop i H ∧ Qd H) ∨ ((Itr lo n).go i H ∧ ∃ Nx : Hp → Prop, (∀ H', Nx H' → ∃ m', m' < m ∧ W (i + 1) m' H') ∧ ∀ x H', (Itr lo n).yld i H x H' → g x (wipe σ vs) H' fun σ2 H2 => wipe σ2 vs = wipe σ vs ∧ tt σ2 H2 fun b H3 =>
        if b = true then te σ2 H3 fun y H4 => ∃ acc, H4 D = some (.lst acc) ∧ acc.length < sizeLine ∧ Nx (upd H4 D (.lst (acc ++ [y]))) else Nx H3) := by
  refine lc_range (lo := lo) (n := n) (fun i H' => Same H H' ∧ ∃ ys, H' D = some (.lst ys) ∧ ys.length = i ∧ ∀ j y, ys[j]? = some y → E j y H') ⟨same_new hD, [], upd_same, rfl, fun j y h => by simp at h⟩ (fun i H' hi ⟨sm, ys, hy, hl, he⟩ => ?_) fun H' ⟨sm, ys, hy, hl, he⟩ => done ys H' sm hy hl he
  refine turn i H' _ _ hi sm ⟨ys, hy⟩ fun y H4 s4 e4 => ⟨ys, s4 _ _ hy, by omega, same_mut hD (sm.trans s4), ys ++ [y], upd_same, by simp [hl], fun j z hj => ?_⟩
  by_cases hj' : j < ys.length
  · rw [List.getElem?_append_left hj'] at hj
    exact st _ _ _ _ (he j z hj) ((Bt.of s4).trans Bt.upd)
  · rw [List.getElem?_append_right (by omega)] at hj
    have e0 : j - ys.length = 0 := by
      apply Classical.byContradiction
      intro q
      rw [List.getElem?_eq_none (by simp; omega)] at hj
      cases hj
    rw [e0] at hj
    have : y = z := by simpa using hj
    subst this
    have : j = i := by omega
    subst this
    exact st _ _ _ _ e4 Bt.upd
/-- the items at the places that are true -/
def pickB : List V → List Bool → List V
  | x :: xs, b :: bs => if b then x :: pickB xs bs else pickB xs bs
  | _, _ => []
theorem pickB_snoc : ∀ (xs : List V) (bs : List Bool) (x : V) (b : Bool), xs.length = bs.length → pickB (xs ++ [x]) (bs ++ [b]) = pickB xs bs ++ (if b then [x] else [])
  | [], [], x, b, _ => by cases b <;> rfl
  | [], _ :: _, _, _, h => by simp at h
  | _ :: _, [], _, _, h => by simp at h
  | y :: xs, c :: bs, x, b, h => by
    have ih := pickB_snoc xs bs x b (by simpa using h)
    cases c <;> simp [pickB, ih]
theorem pickB_length : ∀ (xs : List V) (bs : List Bool), (pickB xs bs).length ≤ xs.length
  | [], _ => by simp [pickB]
  | _ :: _, [] => by simp [pickB]
  | x :: xs, b :: bs => by
    have ih := pickB_length xs bs
    cases b <;> simp [pickB] <;> omega
/-- comprehensions that choose -/
theorem lc_filL (bs : List Bool) (s : H a = some (.lst xs)) (hb : bs.length = xs.length) (hD : H D = none) (hz : xs.length < sizeLine)
    (turn : ∀ (i : Nat) x (b : Bool) H' (C : VK) (G : Hp → Prop), xs[i]? = some x → bs[i]? = some b → Same H H' → (b = true → ∀ H4, Same H' H4 → C x H4) → (b = false → ∀ H4, Same H' H4 → G H4) →
      g x (wipe σ vs) H' fun σ2 H2 => wipe σ2 vs = wipe σ vs ∧ tt σ2 H2 fun b H3 => if b = true then te σ2 H3 C else G H3)
    (done : ∀ H', Same H H' → H' D = some (.lst (pickB xs bs)) → Qd H') :
    ∃ W : Nat → Nat → Hp → Prop, (∃ m, W 0 m (upd H D (.lst []))) ∧ ∀ i m H, W i m H →
      ((Itl K a).stop i H ∧ Qd H) ∨ ((Itl K a).go i H ∧ ∃ Nx : Hp → Prop, (∀ H', Nx H' → ∃ m', m' < m ∧ W (i + 1) m' H') ∧ ∀ x H', (Itl K a).yld i H x H' → g x (wipe σ vs) H' fun σ2 H2 => wipe σ2 vs = wipe σ vs ∧ tt σ2 H2 fun b H3 =>
        if b = true then te σ2 H3 fun y H4 => ∃ acc, H4 D = some (.lst acc) ∧ acc.length < sizeLine ∧ Nx (upd H4 D (.lst (acc ++ [y]))) else Nx H3) := by
  refine lc_list (xs := xs) (fun i H' => Same H H' ∧ H' D = some (.lst (pickB (xs.take i) (bs.take i)))) ⟨same_new hD, upd_same⟩ (fun i H' _ p => SqL.of (p.1 _ _ s)) (fun i x H' hx ⟨sm, hy⟩ => ?_) fun H' ⟨sm, hy⟩ => done H' sm (by rw [← hb] at hy; simpa [List.take_of_length_le (Nat.le_of_eq hb.symm)] using hy)
  have hi := (List.getElem?_eq_some_iff.mp hx).1
  obtain ⟨b, hb'⟩ : ∃ b, bs[i]? = some b := ⟨bs[i]'(by omega), List.getElem?_eq_getElem (by omega)⟩
  have e1 : xs.take (i + 1) = xs.take i ++ [x] := by rw [List.take_add_one, hx]; rfl
  have e2 : bs.take (i + 1) = bs.take i ++ [b] := by rw [List.take_add_one, hb']; rfl
  have e3 := pickB_snoc (xs.take i) (bs.take i) x b (by simp [hb])
  have e4 := pickB_length (xs.take i) (bs.take i)
  have e5 : (xs.take i).length ≤ i := by simp; omega
  refine turn i x b H' _ _ hx hb' sm (fun hb1 H4 s4 => ⟨_, s4 _ _ hy, by omega, same_mut hD (sm.trans s4), ?_⟩) (fun hb1 H4 s4 => ⟨sm.trans s4, ?_⟩)
  · rw [upd_same, e1, e2, e3, hb1]; rfl
  · rw [s4 _ _ hy, e1, e2, e3, hb1]
    simp
end
end
local macro_rules | `(tactic| wtm_at "hl") => `(tactic| first
  | with_reducible assumption
  | with_reducible exact upd_same
  | (refine upd_new (by with_reducible assumption) ?_; first | with_reducible assumption | with_reducible exact upd_same | (refine upd_new (by with_reducible assumption) ?_; first | with_reducible assumption | with_reducible exact upd_same))
  | (refine (by assumption : Same _ _) _ _ ?_; first | with_reducible assumption | with_reducible exact upd_same | (refine upd_new (by with_reducible assumption) ?_; first | with_reducible assumption | with_reducible exact upd_same)))
local macro_rules | `(tactic| wtm_at "sm") => `(tactic| first
  | assumption
  | exact Same.refl _
  | exact same_new (by assumption)
  | (refine same_mut (by assumption) ?_; wtm_at "sm")
  | (refine Same.trans ?_ (same_new (by assumption)); wtm_at "sm")
  | (refine Same.trans ?_ (by assumption : Same _ _); wtm_at "sm"))
local macro_rules | `(tactic| wtm_at "hp") => `(tactic| first
  | with_reducible assumption
  | with_reducible exact upd_same
  | (refine upd_new (by assumption) ?_; wtm_at "hp")
  | (refine upd_tup (by wtm_at "hl") ?_; wtm_at "hp")
  | (refine (by assumption : Same _ _) _ _ ?_; wtm_at "hp")
  | (refine (by assumption : Tk _ _) _ _ ?_; wtm_at "hp")
  | assumption
  | exact upd_same)
local macro_rules | `(tactic| wtm_at "tt") => `(tactic| first
  | assumption
  | exact Tk.refl _
  | exact Tk.of (by wtm_at "sm")
  | (refine Tk.trans ?_ (Tk.lst (by wtm_at "hl")); wtm_at "tt")
  | (refine Tk.trans ?_ (Tk.new (by assumption)); wtm_at "tt")
  | (refine Tk.trans ?_ (Tk.of (by assumption)); wtm_at "tt"))
local macro_rules | `(tactic| wtm_at "ix") => `(tactic| first
  | with_reducible exact at0 | with_reducible exact at1 | with_reducible exact at2 | with_reducible exact at3 | with_reducible exact at4 | with_reducible exact at5 | with_reducible exact at6 | with_reducible assumption
  | exact at0 | exact at1 | exact at2 | exact at3 | exact at4 | exact at5 | exact at6)
local macro_rules | `(tactic| wtm_at "st") => `(tactic| (repeat (first | with_reducible exact SetAt.z | with_reducible apply SetAt.s)))
local macro_rules | `(tactic| wtm_at "cm") => `(tactic| first | exact .inl ⟨by omega, by omega⟩ | exact .inr ⟨by omega, by omega⟩)
local macro_rules | `(tactic| wtm_at "call") => `(tactic| fail)
local macro_rules | `(tactic| wtm_at "go1") => `(tactic| first
  | ((with_reducible show tOp _ (tVar _) (tC _) _ _ _); refine i_ovc (by rfl) ?_)
  | ((with_reducible show tOp _ (tVar _) (tVar _) _ _ _); refine i_ovv (by rfl) (by rfl) ?_)
  | with_reducible refine i_seq ?_
  | with_reducible refine i_asg ?_
  | with_reducible refine i_op ?_
  | ((with_reducible show tVar _ _ _ _); refine i_var (by rfl) ?_)
  | with_reducible refine i_c ?_
  | ((with_reducible show rIxT _ (V.ref _) (V.int _) _ _); refine i_ixT (by wtm_at "hp") (by wtm_at "ix") ?_)
  | ((with_reducible show rIxL _ (V.ref _) (V.int _) _ _); refine i_ixL (by wtm_at "hp") (by wtm_at "ix") ?_)
  | with_reducible refine i_cons ?_
  | with_reducible refine i_nil ?_
  | with_reducible refine i_add ?_
  | with_reducible refine i_sub ?_
  | ((with_reducible refine i_mul ?e ?_); (case e => wtm_at "cm"))
  | ((with_reducible show rDivI _ _ _ _); refine i_fdiv ⟨by omega, by omega⟩ ?_)
  | with_reducible refine i_neg ?_
  | with_reducible refine i_tup ?_
  | with_reducible refine i_lst ?_
  | ((with_reducible show _ ∧ _); refine i_made (Nat.le_of_ble_eq_true rfl) fun p hp => ?_)
  | with_reducible refine i_cal ?_
  | with_reducible refine i_cb ?_
  | with_reducible refine i_ret ?_
  | ((with_reducible show gName _ _ _ _ _); refine i_gname (by wtm_at "st") ?_)
  | with_reducible refine i_if ?_
  | with_reducible refine i_tst ?_
  | with_reducible refine i_tb ?_
  | with_reducible refine i_bl ?_
  | with_reducible refine i_lt ?_
  | with_reducible refine i_le ?_
  | with_reducible refine i_gt ?_
  | with_reducible refine i_ge ?_
  | with_reducible refine i_eq ?_
  | with_reducible refine i_ne ?_
  | (refine i_dec (fun h => ?_) (fun h => ?_))
  | (refine i_ndec (fun h => ?_) (fun h => ?_))
  | with_reducible refine i_and ?_
  | with_reducible refine i_or ?_
  | with_reducible refine i_not ?_
  | with_reducible refine i_chain ?_
  | with_reducible refine i_bt ?_
  | with_reducible refine i_bf ?_
  | with_reducible refine i_nbt ?_
  | with_reducible refine i_nbf ?_
  | with_reducible refine i_next ?_
  | with_reducible refine i_andV ?_
  | with_reducible refine i_orV ?_
  | with_reducible refine i_notV ?_
  | with_reducible refine i_ifE ?_
  | with_reducible refine i_max2 ?_
  | with_reducible refine i_min2 ?_
  | with_reducible refine i_abs ?_
  | with_reducible refine i_int ?_
  | (with_reducible refine i_isN_non ?_) | (with_reducible refine i_isN_ref ?_) | (with_reducible refine i_isN_int ?_)
  | (with_reducible refine i_notN_non ?_) | (with_reducible refine i_notN_ref ?_) | (with_reducible refine i_notN_int ?_)
  | with_reducible refine i_drop ?_
  | with_reducible refine i_un ?_
  | ((with_reducible show gTup _ _ _ (V.ref _) _ _ _); refine i_gtup (by wtm_at "hp") (by rfl) ?_)
  | with_reducible refine i_gcons ?_
  | with_reducible refine i_gnil ?_
  | with_reducible refine i_for ?_
  | with_reducible refine i_lc ?_
  | with_reducible refine i_iL ?_
  | with_reducible refine i_iT ?_
  | with_reducible refine i_rng1 ?_
  | with_reducible refine i_rng2 ?_
  | ((with_reducible show ∃ _, _ ∧ _); refine ⟨_, rfl, ⟨_, SqL.of (by wtm_at "hp")⟩, ?_⟩)
  | ((with_reducible show ∃ _, _ ∧ _); refine ⟨_, rfl, ⟨_, SqT.of (by wtm_at "hp")⟩, ?_⟩)
  | ((with_reducible show ∃ _, _ ∧ _ ∧ _ ∧ _); refine ⟨_, rfl, by omega, by omega, ?_⟩)
  | ((with_reducible show ∃ _, ∃ _, _ ∧ _); refine ⟨_, _, rfl, ⟨by omega, by omega, by omega, by omega⟩, ?_⟩)
  | with_reducible refine i_yes ?_
  | ((with_reducible show rModI _ _ _ _); refine i_mod (by omega) ?_)
  | with_reducible refine i_bm ?_
  | ((with_reducible show tyV _ _ _ _ ∧ _); refine i_tyL (by wtm_at "hp") ?_)
  | ((with_reducible show wipe _ _ = _ ∧ _); refine ⟨rfl, ?_⟩)
  | wtm_at "call"
  | (refine i_b (fun h => ?_) (fun h => ?_))
  | (refine i_nb (fun h => ?_) (fun h => ?_)))
local macro_rules | `(tactic| wtm_at "go") => `(tactic| (repeat' (wtm_at "go1")))
section
/-- the tuple (x, y, z) -/
abbrev T3 (H : Hp) (a : Addr) (x y z : Int) : Prop := H a = some (.tup [.int x, .int y, .int z])
abbrev T2 (H : Hp) (a : Addr) (x y : Int) : Prop := H a = some (.tup [.int x, .int y])
def sp_minus (_ : PySem.W.Frag) : Sp := fun vs H Q _ => ∃ (p q : Addr) (a b c d e f : Int), vs = [.ref p, .ref q] ∧ T3 H p a b c ∧ T3 H q d e f ∧
  ∀ r H', Same H H' → T3 H' r (a - d) (b - e) (c - f) → Q (.ref r) H'
abbrev s_minus : Stmt := topS 30
abbrev N_minus : List Str := ["p", "q"]
theorem sc_minus : FnScope N_minus ["p", "q"] (defScope s_minus) := ⟨rfl, rfl, rfl, by decide +kernel, rfl, by decide +kernel, by decide +kernel⟩
theorem bd_minus : BindsOf ["p", "q"] "minus" "minus" s_minus := fun _ _ _ _ _ _ us hl => match us, hl with | [_, _], _ => rfl
theorem cal_minus {P : Program} {w : World} {K : PySem.W.Frag} {mg : Str → Option Value} {base : Heap} (T : Tx K mg) : Cal P w K mg base "minus" 1 ["p", "q"] (sp_minus K) := by
  refine T.minus.cal sc_minus bd_minus (fun vs H Q E h => ?_) (fun f cdv A outer s H vs Q E hr h => ?_)
  · obtain ⟨p, q, a, b, c, d, e, f, rfl, hp, hq, k⟩ := h; rfl
  · have hu := hu_of hr
    obtain ⟨p, q, a, b, c, d, e, f, rfl, hp, hq, k⟩ := h
    refine ⟨_, (pss_one (ps_ret (pe_tup (pa_cons (pe_op o_sub (pe_ix (x_tup K) (pv 0) pe_int (fun _ _ => rfl)) (pe_ix (x_tup K) (pv 1) pe_int (fun _ _ => rfl))) (pa_cons (pe_op o_sub (pe_ix (x_tup K) (pv 0) pe_int (fun _ _ => rfl)) (pe_ix (x_tup K) (pv 1) pe_int (fun _ _ => rfl))) (pa_cons (pe_op o_sub (pe_ix (x_tup K) (pv 0) pe_int (fun _ _ => rfl)) (pe_ix (x_tup K) (pv 1) pe_int (fun _ _ => rfl))) pa_nil)))))), ?_⟩
    change (_ : TS) _ [some _, some _] H
    wtm_at "go"
    exact k _ _ (by wtm_at "sm") upd_same
theorem do_minus {K : PySem.W.Frag} {H : Hp} {Q : VK} {p q : Addr} {a b c d e f : Int} (hp : T3 H p a b c) (hq : T3 H q d e f) (k : ∀ r H', Same H H' → T3 H' r (a - d) (b - e) (c - f) → Q (.ref r) H') :
    sp_minus K [.ref p, .ref q] H Q E0 := ⟨p, q, a, b, c, d, e, f, rfl, hp, hq, k⟩
local macro_rules | `(tactic| wtm_at "call") => `(tactic| ((with_reducible show sp_minus _ _ _ _ _); refine do_minus (by wtm_at "hp") (by wtm_at "hp") (fun r H' e hr => ?_)))
/-- a triangle at t -/
structure TriAt (H : Hp) (t : Addr) (T : FpM.Tr) : Prop where
  ex : ∃ a b c : Addr, H t = some (.tup [.ref a, .ref b, .ref c]) ∧ T3 H a T.a.x T.a.y T.a.z ∧ T3 H b T.b.x T.b.y T.b.z ∧ T3 H c T.c.x T.c.y T.c.z
theorem TriAt.tt {H H' : Hp} {t : Addr} {R : FpM.Tr} (h : TriAt H t R) (k : Tk H H') : TriAt H' t R := by
  obtain ⟨a, b, c, h1, h2, h3, h4⟩ := h
  exact ⟨a, b, c, k _ _ h1, k _ _ h2, k _ _ h3, k _ _ h4⟩
/-- the coordinates are small -/
def Sm (n : Int) : Prop := -900 ≤ n ∧ n ≤ 900
structure TrSm (T : FpM.Tr) : Prop where
  ax : Sm T.a.x
  ay : Sm T.a.y
  az : Sm T.a.z
  bx : Sm T.b.x
  by_ : Sm T.b.y
  bz : Sm T.b.z
  cx : Sm T.c.x
  cy : Sm T.c.y
  cz : Sm T.c.z
def sp_normal (_ : PySem.W.Frag) : Sp := fun vs H Q _ => ∃ (t : Addr) (T : FpM.Tr), vs = [.ref t] ∧ TriAt H t T ∧ TrSm T ∧
  ∀ r H', Same H H' → T3 H' r (FpM.nrm T).x (FpM.nrm T).y (FpM.nrm T).z → Q (.ref r) H'
abbrev s_normal : Stmt := topS 31
abbrev N_normal : List Str := ["triangle", "u", "v"]
theorem sc_normal : FnScope N_normal ["triangle"] (defScope s_normal) := ⟨rfl, rfl, rfl, by decide +kernel, rfl, by decide +kernel, by decide +kernel⟩
theorem bd_normal : BindsOf ["triangle"] "normal" "normal" s_normal := fun _ _ _ _ _ _ us hl => match us, hl with | [_], _ => rfl
theorem cal_normal {P : Program} {w : World} {K : PySem.W.Frag} {mg : Str → Option Value} {base : Heap} (T : Tx K mg) : Cal P w K mg base "normal" 2 ["triangle"] (sp_normal K) := by
  refine T.normal.cal sc_normal bd_normal (fun vs H Q E h => ?_) (fun f cdv A outer s H vs Q E hr h => ?_)
  · obtain ⟨t, R, rfl, ⟨ta, tb, tc, ht, ha, hb, hc⟩, sm, k⟩ := h; rfl
  · have hu := hu_of hr
    obtain ⟨t, R, rfl, ⟨ta, tb, tc, ht, ha, hb, hc⟩, sm, k⟩ := h
    refine ⟨_, (pss_cons (ps_set (i := 1) sc_normal.nd rfl (.inl rfl) (pe_callC (cal_minus (K := K) T) (hr.mono (by decide)) (by rfl) (pa_cons (pe_ix (x_tup K) (pv 0) pe_int (fun _ _ => rfl)) (pa_cons (pe_ix (x_tup K) (pv 0) pe_int (fun _ _ => rfl)) pa_nil))))
      (pss_cons (ps_set (i := 2) sc_normal.nd rfl (.inl rfl) (pe_callC (cal_minus (K := K) T) (hr.mono (by decide)) (by rfl) (pa_cons (pe_ix (x_tup K) (pv 0) pe_int (fun _ _ => rfl)) (pa_cons (pe_ix (x_tup K) (pv 0) pe_int (fun _ _ => rfl)) pa_nil))))
      (pss_one (ps_ret (pe_tup (pa_cons (pe_op o_sub (pe_op o_mul (pe_ix (x_tup K) (pv 1) pe_int (fun _ _ => rfl)) (pe_ix (x_tup K) (pv 2) pe_int (fun _ _ => rfl))) (pe_op o_mul (pe_ix (x_tup K) (pv 1) pe_int (fun _ _ => rfl)) (pe_ix (x_tup K) (pv 2) pe_int (fun _ _ => rfl)))) (pa_cons (pe_op o_sub (pe_op o_mul (pe_ix (x_tup K) (pv 1) pe_int (fun _ _ => rfl)) (pe_ix (x_tup K) (pv 2) pe_int (fun _ _ => rfl))) (pe_op o_mul (pe_ix (x_tup K) (pv 1) pe_int (fun _ _ => rfl)) (pe_ix (x_tup K) (pv 2) pe_int (fun _ _ => rfl)))) (pa_cons (pe_op o_sub (pe_op o_mul (pe_ix (x_tup K) (pv 1) pe_int (fun _ _ => rfl)) (pe_ix (x_tup K) (pv 2) pe_int (fun _ _ => rfl))) (pe_op o_mul (pe_ix (x_tup K) (pv 1) pe_int (fun _ _ => rfl)) (pe_ix (x_tup K) (pv 2) pe_int (fun _ _ => rfl)))) pa_nil)))))))), ?_⟩
    change (_ : TS) _ [some _, none, none] H
    obtain ⟨⟨s1, s1'⟩, ⟨s2, s2'⟩, ⟨s3, s3'⟩, ⟨s4, s4'⟩, ⟨s5, s5'⟩, ⟨s6, s6'⟩, ⟨s7, s7'⟩, ⟨s8, s8'⟩, ⟨s9, s9'⟩⟩ := sm
    wtm_at "go"
    exact k _ _ (by wtm_at "sm") upd_same
end
section
local macro_rules | `(tactic| wtm_at "call") => `(tactic| ((with_reducible show sp_minus _ _ _ _ _); refine do_minus (by wtm_at "hp") (by wtm_at "hp") (fun r H' e hr => ?_)))
theorem nrm_sm {R : FpM.Tr} (sm : TrSm R) : (-8000000 ≤ (FpM.nrm R).x ∧ (FpM.nrm R).x ≤ 8000000) ∧ (-8000000 ≤ (FpM.nrm R).y ∧ (FpM.nrm R).y ≤ 8000000) ∧ (-8000000 ≤ (FpM.nrm R).z ∧ (FpM.nrm R).z ≤ 8000000) := by
  obtain ⟨⟨s1, s1'⟩, ⟨s2, s2'⟩, ⟨s3, s3'⟩, ⟨s4, s4'⟩, ⟨s5, s5'⟩, ⟨s6, s6'⟩, ⟨s7, s7'⟩, ⟨s8, s8'⟩, ⟨s9, s9'⟩⟩ := sm
  have k : ∀ a b c d : Int, -2000 ≤ a → a ≤ 2000 → -2000 ≤ b → b ≤ 2000 → -2000 ≤ c → c ≤ 2000 → -2000 ≤ d → d ≤ 2000 → -8000000 ≤ a * b - c * d ∧ a * b - c * d ≤ 8000000 := by
    intro a b c d h1 h2 h3 h4 h5 h6 h7 h8
    have k1 := FpM.mul_nn (show 0 ≤ 2000 - a by omega) (show 0 ≤ 2000 - b by omega)
    have k2 := FpM.mul_nn (show 0 ≤ 2000 + a by omega) (show 0 ≤ 2000 + b by omega)
    have k3 := FpM.mul_nn (show 0 ≤ 2000 - a by omega) (show 0 ≤ 2000 + b by omega)
    have k4 := FpM.mul_nn (show 0 ≤ 2000 + a by omega) (show 0 ≤ 2000 - b by omega)
    have k5 := FpM.mul_nn (show 0 ≤ 2000 - c by omega) (show 0 ≤ 2000 - d by omega)
    have k6 := FpM.mul_nn (show 0 ≤ 2000 + c by omega) (show 0 ≤ 2000 + d by omega)
    have k7 := FpM.mul_nn (show 0 ≤ 2000 - c by omega) (show 0 ≤ 2000 + d by omega)
    have k8 := FpM.mul_nn (show 0 ≤ 2000 + c by omega) (show 0 ≤ 2000 - d by omega)
    grind
  simp only [FpM.nrm]
  exact ⟨k _ _ _ _ (by omega) (by omega) (by omega) (by omega) (by omega) (by omega) (by omega) (by omega), k _ _ _ _ (by omega) (by omega) (by omega) (by omega) (by omega) (by omega) (by omega) (by omega), k _ _ _ _ (by omega) (by omega) (by omega) (by omega) (by omega) (by omega) (by omega) (by omega)⟩
theorem do_normal {K : PySem.W.Frag} {H : Hp} {Q : VK} {t : Addr} {T : FpM.Tr} (ht : TriAt H t T) (sm : TrSm T) (k : ∀ r H', Same H H' → T3 H' r (FpM.nrm T).x (FpM.nrm T).y (FpM.nrm T).z → Q (.ref r) H') : sp_normal K [.ref t] H Q E0 := ⟨t, T, rfl, ht, sm, k⟩
local macro_rules | `(tactic| wtm_at "call") => `(tactic| ((with_reducible show sp_normal _ _ _ _ _); refine do_normal (by first | assumption | exact TriAt.tt (by assumption) (by wtm_at "tt")) (by assumption) (fun r H' e hr => ?_)))
def sp_is_flat (_ : PySem.W.Frag) : Sp := fun vs H Q _ => ∃ (t s : Addr) (R : FpM.Tr) (sn sd : Int), vs = [.ref t, .ref s] ∧ TriAt H t R ∧ TrSm R ∧ T2 H s sn sd ∧ (0 ≤ sn ∧ sn ≤ 1000 ∧ 0 ≤ sd ∧ sd ≤ 1000) ∧
  ∀ H', Same H H' → Q (.bl (FpM.flatM R sn sd)) H'
abbrev s_is_flat : Stmt := topS 32
abbrev N_is_flat : List Str := ["triangle", "slope", "x", "y", "z", "length"]
theorem sc_is_flat : FnScope N_is_flat ["triangle", "slope"] (defScope s_is_flat) := ⟨rfl, rfl, rfl, by decide +kernel, rfl, by decide +kernel, by decide +kernel⟩
theorem bd_is_flat : BindsOf ["triangle", "slope"] "is_flat" "is_flat" s_is_flat := fun _ _ _ _ _ _ us hl => match us, hl with | [_, _], _ => rfl
theorem cal_is_flat {P : Program} {w : World} {K : PySem.W.Frag} {mg : Str → Option Value} {base : Heap} (T : Tx K mg) : Cal P w K mg base "is_flat" 3 ["triangle", "slope"] (sp_is_flat K) := by
  refine T.is_flat.cal sc_is_flat bd_is_flat (fun vs H Q E h => ?_) (fun f cdv A outer s H vs Q E hr h => ?_)
  · obtain ⟨t, s, R, sn, sd, rfl, ht, sm, hs, hb, k⟩ := h; rfl
  · have hu := hu_of hr
    obtain ⟨t, s, R, sn, sd, rfl, ht, sm, hs, hb, k⟩ := h
    refine ⟨_, (pss_cons (ps_asg (pe_callC (cal_normal (K := K) T) (hr.mono (by decide)) (by rfl) (pa_cons (pv 0) pa_nil)) (pg_tup rfl (pgs_cons (pg_name (i := 2) sc_is_flat.nd rfl (.inl rfl)) (pgs_cons (pg_name (i := 3) sc_is_flat.nd rfl (.inl rfl)) (pgs_cons (pg_name (i := 4) sc_is_flat.nd rfl (.inl rfl)) pgs_nil)))))
      (pss_cons (ps_set (i := 5) sc_is_flat.nd rfl (.inl rfl) (pe_op o_add (pe_op o_add (pe_op o_mul (pv 2) (pv 2)) (pe_op o_mul (pv 3) (pv 3))) (pe_op o_mul (pv 4) (pv 4))))
      (pss_one (ps_ret (pe_and (pe_cmpR op_gt1 (pv 5) pe_int (nomark _)) (pe_one (pe_cmpR op_ge1 (pe_op o_mul (pe_op o_mul (pv 3) (pv 3)) (pe_ix (x_tup K) (pv 1) pe_int (fun _ _ => rfl))) (pe_op o_mul (pe_ix (x_tup K) (pv 1) pe_int (fun _ _ => rfl)) (pv 5)) (nomark _)))))))), ?_⟩
    change (_ : TS) _ [some _, some _, none, none, none, none] H
    have nb := nrm_sm sm
    have fp : ∀ A B : Prop, [Decidable A] → [Decidable B] → A → decide (A ∧ B) = decide B := fun A B _ _ a => by simp [a]
    wtm_at "go"
    · have := k _ (by wtm_at "sm")
      unfold FpM.flatM at this
      rw [fp _ _ (by assumption)] at this
      exact this
    · have := k _ (by wtm_at "sm")
      have e : FpM.flatM R sn sd = false := decide_eq_false (fun z => absurd z.1 (by assumption))
      rw [e] at this
      exact this
def sp_less (_ : PySem.W.Frag) : Sp := fun vs H Q _ => ∃ (p q : Addr) (a b c d : Int), vs = [.ref p, .ref q] ∧ T2 H p a b ∧ T2 H q c d ∧ (-1000000000000000 ≤ b ∧ b ≤ 1000000000000000 ∧ -1000000000000000 ≤ d ∧ d ≤ 1000000000000000) ∧
  ∀ H', Same H H' → Q (.bl (decide (a * d < c * b))) H'
abbrev s_less : Stmt := topS 33
abbrev N_less : List Str := ["one", "other"]
theorem sc_less : FnScope N_less ["one", "other"] (defScope s_less) := ⟨rfl, rfl, rfl, by decide +kernel, rfl, by decide +kernel, by decide +kernel⟩
theorem bd_less : BindsOf ["one", "other"] "less" "less" s_less := fun _ _ _ _ _ _ us hl => match us, hl with | [_, _], _ => rfl
theorem cal_less {P : Program} {w : World} {K : PySem.W.Frag} {mg : Str → Option Value} {base : Heap} (T : Tx K mg) : Cal P w K mg base "less" 1 ["one", "other"] (sp_less K) := by
  refine T.less.cal sc_less bd_less (fun vs H Q E h => ?_) (fun f cdv A outer s H vs Q E hr h => ?_)
  · obtain ⟨p, q, a, b, c, d, rfl, hp, hq, hb, k⟩ := h; rfl
  · have hu := hu_of hr
    obtain ⟨p, q, a, b, c, d, rfl, hp, hq, hb, k⟩ := h
    refine ⟨_, (pss_one (ps_ret (pe_cmpR o_lt (pe_op o_mul (pe_ix (x_tup K) (pv 0) pe_int (fun _ _ => rfl)) (pe_ix (x_tup K) (pv 1) pe_int (fun _ _ => rfl))) (pe_op o_mul (pe_ix (x_tup K) (pv 1) pe_int (fun _ _ => rfl)) (pe_ix (x_tup K) (pv 0) pe_int (fun _ _ => rfl))) (nomark _)))), ?_⟩
    change (_ : TS) _ [some _, some _] H
    wtm_at "go"
    exact k _ (by wtm_at "sm")
def sp_positive (_ : PySem.W.Frag) : Sp := fun vs H Q _ => ∃ (n d : Int), vs = [.int n, .int d] ∧ ∀ r H', Same H H' → T2 H' r (FpM.posi n d).1 (FpM.posi n d).2 → Q (.ref r) H'
abbrev s_positive : Stmt := topS 34
abbrev N_positive : List Str := ["number", "den"]
theorem sc_positive : FnScope N_positive ["number", "den"] (defScope s_positive) := ⟨rfl, rfl, rfl, by decide +kernel, rfl, by decide +kernel, by decide +kernel⟩
theorem bd_positive : BindsOf ["number", "den"] "positive" "positive" s_positive := fun _ _ _ _ _ _ us hl => match us, hl with | [_, _], _ => rfl
theorem cal_positive {P : Program} {w : World} {K : PySem.W.Frag} {mg : Str → Option Value} {base : Heap} (T : Tx K mg) : Cal P w K mg base "positive" 1 ["number", "den"] (sp_positive K) := by
  refine T.positive.cal sc_positive bd_positive (fun vs H Q E h => ?_) (fun f cdv A outer s H vs Q E hr h => ?_)
  · obtain ⟨n, d, rfl, k⟩ := h; rfl
  · have hu := hu_of hr
    obtain ⟨n, d, rfl, k⟩ := h
    refine ⟨_, (pss_cons (ps_if (pt_cmpR o_lt (pv 1) pe_int (nomark _)) (pss_one (ps_ret (pe_tup (pa_cons (pe_un u_neg (pv 0)) (pa_cons (pe_un u_neg (pv 1)) pa_nil))))) pss_nil)
      (pss_one (ps_ret (pe_tup (pa_cons (pv 0) (pa_cons (pv 1) pa_nil)))))), ?_⟩
    change (_ : TS) _ [some _, some _] H
    wtm_at "go"
    · refine k _ _ (by wtm_at "sm") ?_
      unfold FpM.posi
      rw [if_pos (by assumption)]
      exact upd_same
    · refine k _ _ (by wtm_at "sm") ?_
      unfold FpM.posi
      rw [if_neg (by assumption)]
      exact upd_same
theorem do_positive {K : PySem.W.Frag} {H : Hp} {Q : VK} {n d : Int} (k : ∀ r H', Same H H' → T2 H' r (FpM.posi n d).1 (FpM.posi n d).2 → Q (.ref r) H') : sp_positive K [.int n, .int d] H Q E0 := ⟨n, d, rfl, k⟩
local macro_rules | `(tactic| wtm_at "call") => `(tactic| ((with_reducible show sp_positive _ _ _ _ _); refine do_positive (fun r H' e hr => ?_)))
/-- a height, or None -/
def OptF (H : Hp) (v : V) : Option (Int × Int) → Prop
  | none => v = .non
  | some f => ∃ a, v = .ref a ∧ T2 H a f.1 f.2
def axI (ax : Bool) : Int := if ax then 2 else 0
def Md (n : Int) : Prop := -100000 ≤ n ∧ n ≤ 100000
theorem min_ite (a b : Int) : (if b < a then b else a) = min a b := by omega
theorem max_ite (a b : Int) : (if b > a then b else a) = max a b := by omega
theorem edge_eq (a b : FpM.Pt) (ax : Bool) (at_ low high : Int) : FpM.onEdge a b ax at_ low high =
    if FpM.edgeDen a b ax = 0 then none else if (if FpM.co ax b < FpM.co ax a then FpM.co ax b else FpM.co ax a) ≤ at_ then (if at_ ≤ (if FpM.co ax b > FpM.co ax a then FpM.co ax b else FpM.co ax a) then
      (if low * (FpM.acrossOf a b ax at_).2 ≤ (FpM.acrossOf a b ax at_).1 then (if (FpM.acrossOf a b ax at_).1 ≤ high * (FpM.acrossOf a b ax at_).2 then
        some (FpM.posi (a.y * FpM.edgeDen a b ax + (b.y - a.y) * (at_ - FpM.co ax a)) (FpM.edgeDen a b ax)) else none) else none) else none) else none := by
  rw [min_ite, max_ite]
  unfold FpM.onEdge
  by_cases h1 : FpM.edgeDen a b ax = 0
  · rw [if_pos h1, if_pos h1]
  · rw [if_neg h1, if_neg h1]
    by_cases h2 : min (FpM.co ax a) (FpM.co ax b) ≤ at_ <;> by_cases h3 : at_ ≤ max (FpM.co ax a) (FpM.co ax b) <;> by_cases h4 : low * (FpM.acrossOf a b ax at_).2 ≤ (FpM.acrossOf a b ax at_).1 <;>
      by_cases h5 : (FpM.acrossOf a b ax at_).1 ≤ high * (FpM.acrossOf a b ax at_).2 <;> simp [h2, h3, h4, h5]
theorem edge_x (a b : FpM.Pt) (at_ low high : Int) : FpM.onEdge a b false at_ low high =
    if b.x - a.x = 0 then none else if (if b.x < a.x then b.x else a.x) ≤ at_ then (if at_ ≤ (if b.x > a.x then b.x else a.x) then
      (if low * (FpM.posi (a.z * (b.x - a.x) + (b.z - a.z) * (at_ - a.x)) (b.x - a.x)).2 ≤ (FpM.posi (a.z * (b.x - a.x) + (b.z - a.z) * (at_ - a.x)) (b.x - a.x)).1 then
        (if (FpM.posi (a.z * (b.x - a.x) + (b.z - a.z) * (at_ - a.x)) (b.x - a.x)).1 ≤ high * (FpM.posi (a.z * (b.x - a.x) + (b.z - a.z) * (at_ - a.x)) (b.x - a.x)).2 then
        some (FpM.posi (a.y * (b.x - a.x) + (b.y - a.y) * (at_ - a.x)) (b.x - a.x)) else none) else none) else none) else none := edge_eq a b false at_ low high
theorem edge_z (a b : FpM.Pt) (at_ low high : Int) : FpM.onEdge a b true at_ low high =
    if b.z - a.z = 0 then none else if (if b.z < a.z then b.z else a.z) ≤ at_ then (if at_ ≤ (if b.z > a.z then b.z else a.z) then
      (if low * (FpM.posi (a.x * (b.z - a.z) + (b.x - a.x) * (at_ - a.z)) (b.z - a.z)).2 ≤ (FpM.posi (a.x * (b.z - a.z) + (b.x - a.x) * (at_ - a.z)) (b.z - a.z)).1 then
        (if (FpM.posi (a.x * (b.z - a.z) + (b.x - a.x) * (at_ - a.z)) (b.z - a.z)).1 ≤ high * (FpM.posi (a.x * (b.z - a.z) + (b.x - a.x) * (at_ - a.z)) (b.z - a.z)).2 then
        some (FpM.posi (a.y * (b.z - a.z) + (b.y - a.y) * (at_ - a.z)) (b.z - a.z)) else none) else none) else none) else none := edge_eq a b true at_ low high
def sp_on_edge (_ : PySem.W.Frag) : Sp := fun vs H Q _ => ∃ (p q : Addr) (a b : FpM.Pt) (ax : Bool) (at_ low high : Int), vs = [.ref p, .ref q, .int (axI ax), .int at_, .int low, .int high] ∧ T3 H p a.x a.y a.z ∧ T3 H q b.x b.y b.z ∧
  (Sm a.x ∧ Sm a.y ∧ Sm a.z ∧ Sm b.x ∧ Sm b.y ∧ Sm b.z ∧ Md at_ ∧ Md low ∧ Md high) ∧ ∀ v H', Same H H' → OptF H' v (FpM.onEdge a b ax at_ low high) → Q v H'
abbrev s_on_edge : Stmt := topS 35
abbrev N_on_edge : List Str := ["p", "q", "axis", "at", "low", "high", "den", "way", "across"]
theorem sc_on_edge : FnScope N_on_edge ["p", "q", "axis", "at", "low", "high"] (defScope s_on_edge) := ⟨rfl, rfl, rfl, by decide +kernel, rfl, by decide +kernel, by decide +kernel⟩
theorem bd_on_edge : BindsOf ["p", "q", "axis", "at", "low", "high"] "on_edge" "on_edge" s_on_edge := fun _ _ _ _ _ _ us hl => match us, hl with | [_, _, _, _, _, _], _ => rfl
theorem cal_on_edge {P : Program} {w : World} {K : PySem.W.Frag} {mg : Str → Option Value} {base : Heap} (T : Tx K mg) : Cal P w K mg base "on_edge" 2 ["p", "q", "axis", "at", "low", "high"] (sp_on_edge K) := by
  refine T.on_edge.cal sc_on_edge bd_on_edge (fun vs H Q E h => ?_) (fun f cdv A outer s H vs Q E hr h => ?_)
  · obtain ⟨p, q, a, b, ax, at_, low, high, rfl, hp, hq, ⟨⟨s1, s1'⟩, ⟨s2, s2'⟩, ⟨s3, s3'⟩, ⟨s4, s4'⟩, ⟨s5, s5'⟩, ⟨s6, s6'⟩, ⟨s7, s7'⟩, ⟨s8, s8'⟩, ⟨s9, s9'⟩⟩, k⟩ := h; rfl
  · have hu := hu_of hr
    obtain ⟨p, q, a, b, ax, at_, low, high, rfl, hp, hq, ⟨⟨s1, s1'⟩, ⟨s2, s2'⟩, ⟨s3, s3'⟩, ⟨s4, s4'⟩, ⟨s5, s5'⟩, ⟨s6, s6'⟩, ⟨s7, s7'⟩, ⟨s8, s8'⟩, ⟨s9, s9'⟩⟩, k⟩ := h
    refine ⟨_, (pss_cons (ps_set (i := 6) sc_on_edge.nd rfl (.inl rfl) (pe_op o_sub (pe_ix (x_tup K) (pv 1) (pv 2) (fun _ _ => rfl)) (pe_ix (x_tup K) (pv 0) (pv 2) (fun _ _ => rfl))))
      (pss_cons (ps_if (PW.pt (pw_or (pt_cmpR op_eq (pv 6) pe_int (nomark _)) (pw_or1 (pt_not (pt_chain o_le o_le (pe_callB (c_min2 rfl) (by rfl) T.min b_min (pa_cons (pe_ix (x_tup K) (pv 0) (pv 2) (fun _ _ => rfl)) (pa_cons (pe_ix (x_tup K) (pv 1) (pv 2) (fun _ _ => rfl)) pa_nil))) (pv 3) (pe_callB (c_max2 rfl) (by rfl) T.max b_max (pa_cons (pe_ix (x_tup K) (pv 0) (pv 2) (fun _ _ => rfl)) (pa_cons (pe_ix (x_tup K) (pv 1) (pv 2) (fun _ _ => rfl)) pa_nil)))))))) (pss_one (ps_ret pe_non)) pss_nil)
      (pss_cons (ps_set (i := 7) sc_on_edge.nd rfl (.inl rfl) (pe_op o_sub (pv 3) (pe_ix (x_tup K) (pv 0) (pv 2) (fun _ _ => rfl))))
      (pss_cons (ps_set (i := 8) sc_on_edge.nd rfl (.inl rfl) (pe_callC (cal_positive (K := K) T) (hr.mono (by decide)) (by rfl) (pa_cons (pe_op o_add (pe_op o_mul (pe_ix (x_tup K) (pv 0) (pe_op o_sub pe_int (pv 2)) (fun _ _ => rfl)) (pv 6)) (pe_op o_mul (pe_op o_sub (pe_ix (x_tup K) (pv 1) (pe_op o_sub pe_int (pv 2)) (fun _ _ => rfl)) (pe_ix (x_tup K) (pv 0) (pe_op o_sub pe_int (pv 2)) (fun _ _ => rfl))) (pv 7))) (pa_cons (pv 6) pa_nil))))
      (pss_cons (ps_if (pt_not (pt_chain o_le o_le (pe_op o_mul (pv 4) (pe_ix (x_tup K) (pv 8) pe_int (fun _ _ => rfl))) (pe_ix (x_tup K) (pv 8) pe_int (fun _ _ => rfl)) (pe_op o_mul (pv 5) (pe_ix (x_tup K) (pv 8) pe_int (fun _ _ => rfl))))) (pss_one (ps_ret pe_non)) pss_nil)
      (pss_one (ps_ret (pe_callC (cal_positive (K := K) T) (hr.mono (by decide)) (by rfl) (pa_cons (pe_op o_add (pe_op o_mul (pe_ix (x_tup K) (pv 0) pe_int (fun _ _ => rfl)) (pv 6)) (pe_op o_mul (pe_op o_sub (pe_ix (x_tup K) (pv 1) pe_int (fun _ _ => rfl)) (pe_ix (x_tup K) (pv 0) pe_int (fun _ _ => rfl))) (pv 7))) (pa_cons (pv 6) pa_nil)))))))))), ?_⟩
    change (_ : TS) _ [some _, some _, some _, some _, some _, some _, none, none, none] H
    cases ax
    · simp only [axI, if_false, Bool.false_eq_true]
      rw [edge_x] at k
      wtm_at "go"
      all_goals refine k _ _ (by wtm_at "sm") ?_
      all_goals repeat (first | rw [if_pos (by assumption)] | rw [if_neg (by assumption)])
      all_goals first | rfl | exact ⟨_, rfl, by wtm_at "hp"⟩
    · simp only [axI, if_true]
      rw [edge_z] at k
      wtm_at "go"
      all_goals refine k _ _ (by wtm_at "sm") ?_
      all_goals repeat (first | rw [if_pos (by assumption)] | rw [if_neg (by assumption)])
      all_goals first | rfl | exact ⟨_, rfl, by wtm_at "hp"⟩
end
section
local macro_rules | `(tactic| wtm_at "call") => `(tactic| ((with_reducible show sp_positive _ _ _ _ _); refine do_positive (fun r H' e hr => ?_)))
def sp_side (_ : PySem.W.Frag) : Sp := fun vs H Q _ => ∃ (p q : Addr) (a b : FpM.Pt) (x z : Int), vs = [.ref p, .ref q, .int x, .int z] ∧ T3 H p a.x a.y a.z ∧ T3 H q b.x b.y b.z ∧ (Sm a.x ∧ Sm a.z ∧ Sm b.x ∧ Sm b.z) ∧
  ∀ H', Same H H' → Q (.int (FpM.sideOf a b x z)) H'
abbrev s_side : Stmt := topS 36
abbrev N_side : List Str := ["p", "q", "x", "z"]
theorem sc_side : FnScope N_side ["p", "q", "x", "z"] (defScope s_side) := ⟨rfl, rfl, rfl, by decide +kernel, rfl, by decide +kernel, by decide +kernel⟩
theorem bd_side : BindsOf ["p", "q", "x", "z"] "side" "side" s_side := fun _ _ _ _ _ _ us hl => match us, hl with | [_, _, _, _], _ => rfl
theorem cal_side {P : Program} {w : World} {K : PySem.W.Frag} {mg : Str → Option Value} {base : Heap} (T : Tx K mg) : Cal P w K mg base "side" 1 ["p", "q", "x", "z"] (sp_side K) := by
  refine T.side.cal sc_side bd_side (fun vs H Q E h => ?_) (fun f cdv A outer s H vs Q E hr h => ?_)
  · obtain ⟨p, q, a, b, x, z, rfl, hp, hq, ⟨⟨s1, s1'⟩, ⟨s2, s2'⟩, ⟨s3, s3'⟩, ⟨s4, s4'⟩⟩, k⟩ := h; rfl
  · have hu := hu_of hr
    obtain ⟨p, q, a, b, x, z, rfl, hp, hq, ⟨⟨s1, s1'⟩, ⟨s2, s2'⟩, ⟨s3, s3'⟩, ⟨s4, s4'⟩⟩, k⟩ := h
    refine ⟨_, (pss_one (ps_ret (pe_op o_sub (pe_op o_mul (pe_op o_sub (pe_ix (x_tup K) (pv 1) pe_int (fun _ _ => rfl)) (pe_ix (x_tup K) (pv 0) pe_int (fun _ _ => rfl))) (pe_op o_sub (pv 3) (pe_ix (x_tup K) (pv 0) pe_int (fun _ _ => rfl)))) (pe_op o_mul (pe_op o_sub (pe_ix (x_tup K) (pv 1) pe_int (fun _ _ => rfl)) (pe_ix (x_tup K) (pv 0) pe_int (fun _ _ => rfl))) (pe_op o_sub (pv 2) (pe_ix (x_tup K) (pv 0) pe_int (fun _ _ => rfl))))))), ?_⟩
    change (_ : TS) _ [some _, some _, some _, some _] H
    wtm_at "go"
    exact k _ (by wtm_at "sm")
/-- an item of a list of sides -/
def sideAt (R : FpM.Tr) (x z : Int) : Nat → Int
  | 0 => FpM.sideOf R.a R.b x z
  | 1 => FpM.sideOf R.b R.c x z
  | _ => FpM.sideOf R.c R.a x z
theorem do_side {K : PySem.W.Frag} {H : Hp} {Q : VK} {p q : Addr} {a b : FpM.Pt} {x z : Int} (hp : T3 H p a.x a.y a.z) (hq : T3 H q b.x b.y b.z) (sm : Sm a.x ∧ Sm a.z ∧ Sm b.x ∧ Sm b.z) (k : ∀ H', Same H H' → Q (.int (FpM.sideOf a b x z)) H') :
    sp_side K [.ref p, .ref q, .int x, .int z] H Q E0 := ⟨p, q, a, b, x, z, rfl, hp, hq, sm, k⟩
theorem ys_map {ys : List V} {n : Nat} {f : Nat → V} (hl : ys.length = n) (he : ∀ (i : Nat) y, ys[i]? = some y → y = f i) : ys = (List.range n).map f := by
  apply List.ext_getElem?
  intro i
  by_cases h : i < n
  · rw [List.getElem?_eq_getElem (by omega), List.getElem?_map, List.getElem?_range h]
    rw [he i _ (List.getElem?_eq_getElem (by omega))]
    rfl
  · rw [List.getElem?_eq_none (by omega), List.getElem?_eq_none (by simp; omega)]
theorem i_min {K : PySem.W.Frag} {H : Hp} {Q : VK} {a : Addr} (ns : List Int) (s : H a = some (.lst (ns.map V.int))) (hn : 0 < ns.length) (h : ∀ m, m ∈ ns → (∀ y, y ∈ ns → m ≤ y) → Q (.int m) H) : rMin K [.ref a] H Q := ⟨a, ns, rfl, SqL.of s, hn, h⟩
theorem i_max {K : PySem.W.Frag} {H : Hp} {Q : VK} {a : Addr} (ns : List Int) (s : H a = some (.lst (ns.map V.int))) (hn : 0 < ns.length) (h : ∀ m, m ∈ ns → (∀ y, y ∈ ns → y ≤ m) → Q (.int m) H) : rMax K [.ref a] H Q := ⟨a, ns, rfl, SqL.of s, hn, h⟩
def sp_at_corner (_ : PySem.W.Frag) : Sp := fun vs H Q _ => ∃ (t u : Addr) (R : FpM.Tr) (x z : Int), vs = [.ref t, .ref u, .int x, .int z] ∧ TriAt H t R ∧ TrSm R ∧ T3 H u (FpM.nrm R).x (FpM.nrm R).y (FpM.nrm R).z ∧ (Md x ∧ Md z) ∧
  ∀ v H', Same H H' → OptF H' v (FpM.atCorner R x z) → Q v H'
abbrev s_at_corner : Stmt := topS 37
abbrev N_at_corner : List Str := ["triangle", "up", "x", "z", "sides", "k", "p"]
theorem sc_at_corner : FnScope N_at_corner ["triangle", "up", "x", "z"] (defScope s_at_corner) := ⟨rfl, rfl, rfl, by decide +kernel, rfl, by decide +kernel, by decide +kernel⟩
theorem bd_at_corner : BindsOf ["triangle", "up", "x", "z"] "at_corner" "at_corner" s_at_corner := fun _ _ _ _ _ _ us hl => match us, hl with | [_, _, _, _], _ => rfl
theorem cal_at_corner {P : Program} {w : World} {K : PySem.W.Frag} {mg : Str → Option Value} {base : Heap} (T : Tx K mg) : Cal P w K mg base "at_corner" 2 ["triangle", "up", "x", "z"] (sp_at_corner K) := by
  refine T.at_corner.cal sc_at_corner bd_at_corner (fun vs H Q E h => ?_) (fun f cdv A outer s H vs Q E hr h => ?_)
  · obtain ⟨t, u, R, x, z, rfl, ⟨a, b, c, ht, ha, hb, hc⟩, sm, hu', ⟨⟨m1, m1'⟩, m2, m2'⟩, k⟩ := h; rfl
  · have hu := hu_of hr
    obtain ⟨t, u, R, x, z, rfl, ⟨a, b, c, ht, ha, hb, hc⟩, sm, hu', ⟨⟨m1, m1'⟩, m2, m2'⟩, k⟩ := h
    refine ⟨_, (pss_cons (ps_if (pt_cmpR op_eq (pe_ix (x_tup K) (pv 1) pe_int (fun _ _ => rfl)) pe_int (nomark _)) (pss_one (ps_ret pe_non)) pss_nil)
      (pss_cons (ps_setLc (i := 4) (own := [("k", 5)]) rfl sc_at_corner.nd rfl rfl (sw_true rfl rfl rfl (by decide +kernel)) (pi_range1 (by rfl) T.range (pa_cons pe_int pa_nil)) (blkOk_by (own := [("k", 5)]) (N := N_at_corner) (sc := defScope (topS 37)) (by decide +kernel)) (fun _ _ _ _ _ => (pg_name (i := 5) sc_at_corner.nd rfl (.inl rfl))) (fun _ _ _ _ _ => pts_nil) (fun _ _ _ _ _ => (pe_callC (cal_side (K := K) T) (hr.mono (by decide)) (by rfl) (pa_cons (pe_ix (x_tup K) (pv 0) (pv 5) (fun _ _ => rfl)) (pa_cons (pe_ix (x_tup K) (pv 0) (pe_op o_mod (pe_op o_add (pv 5) pe_int) pe_int) (fun _ _ => rfl)) (pa_cons (pv 2) (pa_cons (pv 3) pa_nil)))))))
      (pss_cons (ps_if (pt_chain o_lt o_lt (pe_callB (cr_min rfl) (by rfl) T.min b_min (pa_cons (pv 4) pa_nil)) pe_int (pe_callB (cr_max rfl) (by rfl) T.max b_max (pa_cons (pv 4) pa_nil))) (pss_one (ps_ret pe_non)) pss_nil)
      (pss_cons (ps_set (i := 6) sc_at_corner.nd rfl (.inl rfl) (pe_ix (x_tup K) (pv 0) pe_int (fun _ _ => rfl)))
      (pss_one (ps_ret (pe_callC (cal_positive (K := K) T) (hr.mono (by decide)) (by rfl) (pa_cons (pe_op o_sub (pe_op o_sub (pe_op o_mul (pe_ix (x_tup K) (pv 6) pe_int (fun _ _ => rfl)) (pe_ix (x_tup K) (pv 1) pe_int (fun _ _ => rfl))) (pe_op o_mul (pe_ix (x_tup K) (pv 1) pe_int (fun _ _ => rfl)) (pe_op o_sub (pv 2) (pe_ix (x_tup K) (pv 6) pe_int (fun _ _ => rfl))))) (pe_op o_mul (pe_ix (x_tup K) (pv 1) pe_int (fun _ _ => rfl)) (pe_op o_sub (pv 3) (pe_ix (x_tup K) (pv 6) pe_int (fun _ _ => rfl))))) (pa_cons (pe_ix (x_tup K) (pv 1) pe_int (fun _ _ => rfl)) pa_nil))))))))), ?_⟩
    change (_ : TS) _ [some _, some _, some _, some _, none, none, none] H
    have nb := nrm_sm sm
    wtm_at "go"
    · refine k _ _ (by wtm_at "sm") ?_
      unfold FpM.atCorner
      rw [if_pos (by assumption)]
      rfl
    · intro D hD
      refine lc_mapR (lo := 0) (n := 3) hD (Nat.lt_of_le_of_lt (by decide) (small1000 (n := 3) (by decide))) (fun i y _ => y = .int (sideAt R x z i)) (fun _ _ _ _ h _ => h) (fun i H1 C G hi s1 acc kC => ?_) (fun ys H1 s1 hy hl he => ?_)
      · change gName 5 _ [some _, some _, some _, some _, none, none, none] _ _
        match i, hi with
        | 0, _ => 
          wtm_at "go"
          refine do_side (by wtm_at "hp") (by wtm_at "hp") ⟨sm.ax, sm.az, sm.bx, sm.bz⟩ fun H2 e2 => ?_
          exact kC _ _ (by wtm_at "sm") rfl
        | 1, _ => 
          wtm_at "go"
          refine do_side (by wtm_at "hp") (by wtm_at "hp") ⟨sm.bx, sm.bz, sm.cx, sm.cz⟩ fun H2 e2 => ?_
          exact kC _ _ (by wtm_at "sm") rfl
        | 2, _ => 
          wtm_at "go"
          refine do_side (by wtm_at "hp") (by wtm_at "hp") ⟨sm.cx, sm.cz, sm.ax, sm.az⟩ fun H2 e2 => ?_
          exact kC _ _ (by wtm_at "sm") rfl
      · have ey := ys_map hl he
        have hy' : H1 D = some (.lst ([FpM.sideOf R.a R.b x z, FpM.sideOf R.b R.c x z, FpM.sideOf R.c R.a x z].map V.int)) := by rw [hy, ey]; rfl
        obtain ⟨⟨s1, s1'⟩, ⟨s2, s2'⟩, ⟨s3, s3'⟩, ⟨s4, s4'⟩, ⟨s5, s5'⟩, ⟨s6, s6'⟩, ⟨s7, s7'⟩, ⟨s8, s8'⟩, ⟨s9, s9'⟩⟩ := sm
        wtm_at "go"
        refine i_min _ hy' (by simp) fun m hm hm' => ?_
        simp only [List.mem_cons, List.not_mem_nil, or_false, forall_eq_or_imp, forall_eq] at hm hm'
        wtm_at "go"
        · refine i_max _ hy' (by simp) fun n hn hn' => ?_
          simp only [List.mem_cons, List.not_mem_nil, or_false, forall_eq_or_imp, forall_eq] at hn hn'
          wtm_at "go"
          · refine k _ _ (by wtm_at "sm") ?_
            unfold FpM.atCorner
            rw [if_neg (by assumption), if_pos (by unfold FpM.Mixed; omega)]
            rfl
          · refine k _ _ (by wtm_at "sm") ?_
            unfold FpM.atCorner
            rw [if_neg (by assumption), if_neg (by unfold FpM.Mixed; omega)]
            exact ⟨_, rfl, by wtm_at "hp"⟩
        · refine k _ _ (by wtm_at "sm") ?_
          unfold FpM.atCorner
          rw [if_neg (by assumption), if_neg (by unfold FpM.Mixed; omega)]
          exact ⟨_, rfl, by wtm_at "hp"⟩
end
section
/-! ### lists that tell data -/
inductive A2 {α β : Type} (R : α → β → Prop) : List α → List β → Prop where
  | nil : A2 R [] []
  | cons {a : α} {b : β} {l : List α} {m : List β} : R a b → A2 R l m → A2 R (a :: l) (b :: m)
section
variable {α β : Type} {R R' : α → β → Prop} {l l' : List α} {m m' : List β}
theorem A2.length (h : A2 R l m) : l.length = m.length := by
  induction h with
  | nil => rfl
  | cons _ _ ih => simp [ih]
theorem A2.mono (h : A2 R l m) (k : ∀ a b, R a b → R' a b) : A2 R' l m := by
  induction h with
  | nil => exact .nil
  | cons r _ ih => exact .cons (k _ _ r) ih
theorem A2.append (h : A2 R l m) (h' : A2 R l' m') : A2 R (l ++ l') (m ++ m') := by
  induction h with
  | nil => exact h'
  | cons r _ ih => exact .cons r ih
theorem A2.snoc (h : A2 R l m) {a : α} {b : β} (r : R a b) : A2 R (l ++ [a]) (m ++ [b]) := h.append (.cons r .nil)
theorem A2.get (h : A2 R l m) : ∀ {i : Nat} {a : α}, l[i]? = some a → ∃ b, m[i]? = some b ∧ R a b := by
  induction h with
  | nil => intro i a e; simp at e
  | cons r _ ih =>
    intro i a e
    cases i with
    | zero => simp at e; subst e; exact ⟨_, rfl, r⟩
    | succ i => simpa using ih (by simpa using e)
theorem A2.get' (h : A2 R l m) : ∀ {i : Nat} {b : β}, m[i]? = some b → ∃ a, l[i]? = some a ∧ R a b := by
  induction h with
  | nil => intro i a e; simp at e
  | cons r _ ih =>
    intro i a e
    cases i with
    | zero => simp at e; subst e; exact ⟨_, rfl, r⟩
    | succ i => simpa using ih (by simpa using e)
theorem A2.of_get : ∀ {l : List α} {m : List β}, l.length = m.length → (∀ (i : Nat) a b, l[i]? = some a → m[i]? = some b → R a b) → A2 R l m
  | [], [], _, _ => .nil
  | [], _ :: _, h, _ => by simp at h
  | _ :: _, [], h, _ => by simp at h
  | a :: l, b :: m, h, k => .cons (k 0 a b rfl rfl) (A2.of_get (by simpa using h) fun i x y h1 h2 => k (i + 1) x y (by simpa using h1) (by simpa using h2))
theorem A2.mem (h : A2 R l m) {b : β} (hb : b ∈ m) : ∃ a ∈ l, R a b := by
  obtain ⟨i, hi, e⟩ := List.mem_iff_getElem.mp hb
  obtain ⟨a, h1, h2⟩ := h.get' (i := i) (b := b) (by rw [List.getElem?_eq_getElem hi, e])
  exact ⟨a, List.mem_of_getElem? h1, h2⟩
theorem A2.mem' (h : A2 R l m) {a : α} (ha : a ∈ l) : ∃ b ∈ m, R a b := by
  obtain ⟨i, hi, e⟩ := List.mem_iff_getElem.mp ha
  obtain ⟨b, h1, h2⟩ := h.get (i := i) (a := a) (by rw [List.getElem?_eq_getElem hi, e])
  exact ⟨b, List.mem_of_getElem? h1, h2⟩
theorem A2.nil_l (h : A2 R [] m) : m = [] := by cases h; rfl
theorem A2.nil_r (h : A2 R l []) : l = [] := by cases h; rfl
end
theorem A2.pick {β : Type} {R : V → β → Prop} {f : β → Bool} {l : List V} {m : List β} (h : A2 R l m) : A2 R (pickB l (m.map f)) (m.filter f) := by
  induction h with
  | nil => exact .nil
  | @cons a b l m r _ ih =>
    cases hf : f b with
    | true => simp only [List.map_cons, pickB, hf, List.filter_cons, if_true]; exact .cons r ih
    | false => simp only [List.map_cons, pickB, hf, List.filter_cons, if_false, Bool.false_eq_true]; exact ih
def FrAt (H : Hp) (v : V) (f : Int × Int) : Prop := ∃ a, v = .ref a ∧ T2 H a f.1 f.2
theorem FrAt.tt {H H' : Hp} {v : V} {f : Int × Int} (h : FrAt H v f) (t : Tk H H') : FrAt H' v f := by
  obtain ⟨a, rfl, e⟩ := h
  exact ⟨a, rfl, t _ _ e⟩
theorem OptF.tt {H H' : Hp} {v : V} {o : Option (Int × Int)} (h : OptF H v o) (t : Tk H H') : OptF H' v o := by
  cases o with
  | none => exact h
  | some f => exact FrAt.tt h t
/-- besides, not at D -/
def OptN (D : Addr) (H : Hp) (v : V) : Option (Int × Int) → Prop
  | none => v = .non
  | some f => ∃ a, v = .ref a ∧ a ≠ D ∧ T2 H a f.1 f.2
theorem OptN.of {D : Addr} {H : Hp} {v : V} {o : Option (Int × Int)} {xs : List V} (hD : H D = some (.lst xs)) (h : OptF H v o) : OptN D H v o := by
  cases o with
  | none => exact h
  | some f =>
    obtain ⟨a, e, h⟩ := h
    exact ⟨a, e, ne_of h hD (by intro z; cases z), h⟩
theorem OptN.f {D : Addr} {H : Hp} {v : V} {o : Option (Int × Int)} (h : OptN D H v o) : OptF H v o := by
  cases o with
  | none => exact h
  | some f =>
    obtain ⟨a, e, _, h⟩ := h
    exact ⟨a, e, h⟩
theorem OptN.bt {D : Addr} {H H' : Hp} {v : V} {o : Option (Int × Int)} (h : OptN D H v o) (b : Bt D H H') : OptN D H' v o := by
  cases o with
  | none => exact h
  | some f =>
    obtain ⟨a, e, n, h⟩ := h
    exact ⟨a, e, n, b _ _ n h⟩
/-- what the hand layer calls the lists' least and greatest lengths -/
theorem szt {n : Nat} (h : n ≤ 1000) : n < sizeLine := small1000 h
theorem do_on_edge {K : PySem.W.Frag} {H : Hp} {Q : VK} {p q : Addr} {a b : FpM.Pt} (ax : Bool) {i at_ low high : Int} (hi : i = axI ax) (hp : T3 H p a.x a.y a.z) (hq : T3 H q b.x b.y b.z)
    (sm : Sm a.x ∧ Sm a.y ∧ Sm a.z ∧ Sm b.x ∧ Sm b.y ∧ Sm b.z ∧ Md at_ ∧ Md low ∧ Md high) (k : ∀ v H', Same H H' → OptF H' v (FpM.onEdge a b ax at_ low high) → Q v H') :
    sp_on_edge K [.ref p, .ref q, .int i, .int at_, .int low, .int high] H Q E0 := by
  subst hi
  exact ⟨p, q, a, b, ax, at_, low, high, rfl, hp, hq, sm, k⟩
theorem do_at_corner {K : PySem.W.Frag} {H : Hp} {Q : VK} {t u : Addr} {R : FpM.Tr} {x z : Int} (ht : TriAt H t R) (sm : TrSm R) (hu : T3 H u (FpM.nrm R).x (FpM.nrm R).y (FpM.nrm R).z) (m : Md x ∧ Md z) (k : ∀ v H', Same H H' → OptF H' v (FpM.atCorner R x z) → Q v H') :
    sp_at_corner K [.ref t, .ref u, .int x, .int z] H Q E0 := ⟨t, u, R, x, z, rfl, ht, sm, hu, m, k⟩
theorem a2_two {β : Type} {R : V → β → Prop} {zs : List V} {f : Nat → β} (hl : zs.length = 2) (he : ∀ (i : Nat) y, zs[i]? = some y → R y (f i)) : A2 R zs [f 0, f 1] := by
  match zs, hl with
  | [a, b], _ => exact .cons (he 0 a rfl) (.cons (he 1 b rfl) .nil)
end
local macro_rules | `(tactic| wtm_at "tri") => `(tactic| first
  | assumption
  | exact TriAt.tt (by assumption) (by wtm_at "tt"))
section
local macro_rules | `(tactic| wtm_at "call") => `(tactic| ((with_reducible show sp_normal _ _ _ _ _); refine do_normal (by first | assumption | exact TriAt.tt (by assumption) (by wtm_at "tt")) (by assumption) (fun r H' e hr => ?_)))
/-- the candidates of the first n edges -/
def upto (R : FpM.Tr) (x0 z0 x1 z1 : Int) : Nat → List (Option (Int × Int))
  | 0 => []
  | 1 => FpM.edgeAll R.a R.b x0 z0 x1 z1
  | 2 => FpM.edgeAll R.a R.b x0 z0 x1 z1 ++ FpM.edgeAll R.b R.c x0 z0 x1 z1
  | _ => FpM.edgeAll R.a R.b x0 z0 x1 z1 ++ FpM.edgeAll R.b R.c x0 z0 x1 z1 ++ FpM.edgeAll R.c R.a x0 z0 x1 z1
def sp_heights (_ : PySem.W.Frag) : Sp := fun vs H Q _ => ∃ (t : Addr) (R : FpM.Tr) (x0 z0 x1 z1 : Int), vs = [.ref t, .int x0, .int z0, .int x1, .int z1] ∧ TriAt H t R ∧ TrSm R ∧ (Md x0 ∧ Md z0 ∧ Md x1 ∧ Md z1) ∧
  ∀ l ys H', Same H H' → H' l = some (.lst ys) → A2 (FrAt H') ys (FpM.heightsM R x0 z0 x1 z1) → Q (.ref l) H'
theorem filt_opt {H : Hp} {ys : List V} {os : List (Option (Int × Int))} (h : A2 (OptF H) ys os) : A2 (FrAt H) (pickB ys (os.map fun o => o.isSome)) (os.filterMap id) := by
  induction h with
  | nil => exact .nil
  | @cons y o ys os r _ ih =>
    cases o with
    | none => simpa [pickB] using ih
    | some f => simp only [List.map_cons, pickB, Option.isSome_some, if_true, List.filterMap_cons, id]; exact .cons r ih
abbrev s_heights : Stmt := topS 38
abbrev N_heights : List Str := ["triangle", "x0", "z0", "x1", "z1", "found", "up", "k", "p", "q", "at", "x", "z", "height"]
theorem sc_heights : FnScope N_heights ["triangle", "x0", "z0", "x1", "z1"] (defScope s_heights) := ⟨rfl, rfl, rfl, by decide +kernel, rfl, by decide +kernel, by decide +kernel⟩
theorem bd_heights : BindsOf ["triangle", "x0", "z0", "x1", "z1"] "heights" "heights" s_heights := fun _ _ _ _ _ _ us hl => match us, hl with | [_, _, _, _, _], _ => rfl
theorem cal_heights {P : Program} {w : World} {K : PySem.W.Frag} {mg : Str → Option Value} {base : Heap} (T : Tx K mg) : Cal P w K mg base "heights" 3 ["triangle", "x0", "z0", "x1", "z1"] (sp_heights K) := by
  refine T.heights.cal sc_heights bd_heights (fun vs H Q E h => ?_) (fun f cdv A outer s H vs Q E hr h => ?_)
  · obtain ⟨t, R, x0, z0, x1, z1, rfl, htr, sm, mm, k⟩ := h; rfl
  · have hu := hu_of hr
    obtain ⟨t, R, x0, z0, x1, z1, rfl, htr, sm, mm, k⟩ := h
    refine ⟨_, (pss_cons (ps_set (i := 5) sc_heights.nd rfl (.inl rfl) (pe_lst pa_nil))
      (pss_cons (ps_set (i := 6) sc_heights.nd rfl (.inr rfl) (pe_callC (cal_normal (K := K) T) (hr.mono (by decide)) (by rfl) (pa_cons (pv 0) pa_nil)))
      (pss_cons (ps_for PassesOwn.never rfl (pi_range1 (by rfl) T.range (pa_cons pe_int pa_nil)) (pg_name (i := 7) sc_heights.nd rfl (.inl rfl)) (pss_cons (ps_set (i := 8) sc_heights.nd rfl (.inr rfl) (pe_ix (x_tup K) (pv 0) (pv 7) (fun _ _ => rfl)))
      (pss_cons (ps_set (i := 9) sc_heights.nd rfl (.inr rfl) (pe_ix (x_tup K) (pv 0) (pe_op o_mod (pe_op o_add (pv 7) pe_int) pe_int) (fun _ _ => rfl)))
      (Evl.pss_cut (ps_if (PW.pt (pw_and (pt_chain o_le o_le (pv 1) (pe_ix (x_tup K) (pv 8) pe_int (fun _ _ => rfl)) (pv 3)) (pw_and1 (pt_chain o_le o_le (pv 2) (pe_ix (x_tup K) (pv 8) pe_int (fun _ _ => rfl)) (pv 4))))) (pss_one (ps_expr (pe_bm PySem.F.plainAttrs_list PySem.F.slot_list_append PySem.F.type_list_append mt_append (pv 5) (pa_cons (pe_tup (pa_cons (pe_ix (x_tup K) (pv 8) pe_int (fun _ _ => rfl)) (pa_cons pe_int pa_nil))) pa_nil)))) pss_nil)
      (pss_cons (ps_expr (pe_bm PySem.F.plainAttrs_list PySem.F.slot_list_extend PySem.F.type_list_extend mt_extend (pv 5) (pa_cons (pe_lc (own := [("at", 10)]) rfl sc_heights.nd (pi_tup (pe_tup (pa_cons (pv 1) (pa_cons (pv 3) pa_nil)))) (blkOk_by (own := [("at", 10)]) (N := N_heights) (sc := defScope (topS 38)) (by decide +kernel)) (fun _ _ _ _ _ => (pg_name (i := 10) sc_heights.nd rfl (.inl rfl))) (fun _ _ _ _ _ => pts_nil) (fun _ _ _ _ _ => (pe_callC (cal_on_edge (K := K) T) (hr.mono (by decide)) (by rfl) (pa_cons (pv 8) (pa_cons (pv 9) (pa_cons pe_int (pa_cons (pv 10) (pa_cons (pv 2) (pa_cons (pv 4) pa_nil))))))))) pa_nil)))
      (pss_one (ps_expr (pe_bm PySem.F.plainAttrs_list PySem.F.slot_list_extend PySem.F.type_list_extend mt_extend (pv 5) (pa_cons (pe_lc (own := [("at", 10)]) rfl sc_heights.nd (pi_tup (pe_tup (pa_cons (pv 2) (pa_cons (pv 4) pa_nil)))) (blkOk_by (own := [("at", 10)]) (N := N_heights) (sc := defScope (topS 38)) (by decide +kernel)) (fun _ _ _ _ _ => (pg_name (i := 10) sc_heights.nd rfl (.inl rfl))) (fun _ _ _ _ _ => pts_nil) (fun _ _ _ _ _ => (pe_callC (cal_on_edge (K := K) T) (hr.mono (by decide)) (by rfl) (pa_cons (pv 8) (pa_cons (pv 9) (pa_cons pe_int (pa_cons (pv 10) (pa_cons (pv 1) (pa_cons (pv 3) pa_nil))))))))) pa_nil)))))))))
      (pss_cons (ps_for PassesOwn.never rfl (pi_tup (pe_tup (pa_cons (pv 1) (pa_cons (pv 3) pa_nil)))) (pg_name (i := 11) sc_heights.nd rfl (.inr rfl)) (pss_one (ps_expr (pe_bm PySem.F.plainAttrs_list PySem.F.slot_list_extend PySem.F.type_list_extend mt_extend (pv 5) (pa_cons (pe_lc (own := [("z", 12)]) rfl sc_heights.nd (pi_tup (pe_tup (pa_cons (pv 2) (pa_cons (pv 4) pa_nil)))) (blkOk_by (own := [("z", 12)]) (N := N_heights) (sc := defScope (topS 38)) (by decide +kernel)) (fun _ _ _ _ _ => (pg_name (i := 12) sc_heights.nd rfl (.inl rfl))) (fun _ _ _ _ _ => pts_nil) (fun _ _ _ _ _ => (pe_callC (cal_at_corner (K := K) T) (hr.mono (by decide)) (by rfl) (pa_cons (pv 0) (pa_cons (pv 6) (pa_cons (pv 11) (pa_cons (pv 12) pa_nil))))))) pa_nil)))))
      (pss_one (ps_ret (pe_lc (own := [("height", 13)]) rfl sc_heights.nd (pi_list (pv 5)) (blkOk_by (own := [("height", 13)]) (N := N_heights) (sc := defScope (topS 38)) (by decide +kernel)) (fun _ _ _ _ _ => (pg_name (i := 13) sc_heights.nd rfl (.inl rfl))) (fun _ _ _ _ _ => (pts_one (pt_cmpR op_notN1 (pv 13) pe_non (nomark _)))) (fun _ _ _ _ _ => (pv 13))))))))), ?_⟩
    change (_ : TS) _ [some _, some _, some _, some _, some _, none, none, none, none, none, none, none, none, none] H
    obtain ⟨a, b, c, ht, ha, hb, hc⟩ := id htr
    wtm_at "go"
    rename_i F hF u H1 e1 hu1
    refine for_range (lo := 0) (n := 3) (fun i σ H' => (∃ y7 y8 y9, σ = [some (.ref t), some (.int x0), some (.int z0), some (.int x1), some (.int z1), some (.ref F), some (.ref u), y7, y8, y9, none, none, none, none]) ∧ Same H H' ∧ T3 H' u (FpM.nrm R).x (FpM.nrm R).y (FpM.nrm R).z ∧
        ∃ ys, H' F = some (.lst ys) ∧ A2 (OptF H') ys (upto R x0 z0 x1 z1 i) ∧ ys.length ≤ 5 * i) ⟨⟨_, _, _, rfl⟩, by wtm_at "sm", hu1, [], e1 _ _ upd_same, .nil, Nat.le_refl _⟩ (fun i σ H2 hi h2 => ?_) (fun σ H2 h2 => ?_)
    · obtain ⟨⟨y7, y8, y9, rfl⟩, s2, hu2, ys, hy, ha2, hl⟩ := h2
      obtain ⟨pa, qa, P', Q', e1', e2', hP, hQ, smP, eup⟩ : ∃ (pa qa : Addr) (P' Q' : FpM.Pt), atI [V.ref a, V.ref b, V.ref c] (0 + (i : Int)) = some (.ref pa) ∧ atI [V.ref a, V.ref b, V.ref c] ((0 + (i : Int) + 1) % 3) = some (.ref qa) ∧
          T3 H pa P'.x P'.y P'.z ∧ T3 H qa Q'.x Q'.y Q'.z ∧ (Sm P'.x ∧ Sm P'.y ∧ Sm P'.z ∧ Sm Q'.x ∧ Sm Q'.y ∧ Sm Q'.z) ∧ upto R x0 z0 x1 z1 (i + 1) = upto R x0 z0 x1 z1 i ++ FpM.edgeAll P' Q' x0 z0 x1 z1 := by
        match i, hi with
        | 0, _ => exact ⟨a, b, R.a, R.b, at0, at1, ha, hb, ⟨sm.ax, sm.ay, sm.az, sm.bx, sm.by_, sm.bz⟩, rfl⟩
        | 1, _ => exact ⟨b, c, R.b, R.c, at1, at2, hb, hc, ⟨sm.bx, sm.by_, sm.bz, sm.cx, sm.cy, sm.cz⟩, rfl⟩
        | 2, _ => exact ⟨c, a, R.c, R.a, at2, at0, hc, ha, ⟨sm.cx, sm.cy, sm.cz, sm.ax, sm.ay, sm.az⟩, rfl⟩
      wtm_at "go"
      refine i_cut (fun σ' H' => σ' = [some (.ref t), some (.int x0), some (.int z0), some (.int x1), some (.int z1), some (.ref F), some (.ref u), some (.int (0 + (i : Int))), some (.ref pa), some (.ref qa), none, none, none, none] ∧
        Same H H' ∧ T3 H' u (FpM.nrm R).x (FpM.nrm R).y (FpM.nrm R).z ∧ ∃ ys, H' F = some (.lst ys) ∧ A2 (OptF H') ys (upto R x0 z0 x1 z1 i ++ FpM.vertexOf P' x0 z0 x1 z1) ∧ ys.length ≤ 5 * i + 1) ?_ ?_
      · have no : ¬ ((x0 ≤ P'.x ∧ P'.x ≤ x1) ∧ z0 ≤ P'.z ∧ P'.z ≤ z1) → (FpM.vertexOf P' x0 z0 x1 z1 = []) := fun h => if_neg h
        wtm_at "go"
        · refine i_append (by wtm_at "hp") (szt (by omega)) ?_
          refine ⟨rfl, by wtm_at "sm", by wtm_at "hp", ys ++ [_], upd_same, ?_, by simp; omega⟩
          refine (ha2.mono fun v o h => h.tt (by wtm_at "tt")).append ?_
          unfold FpM.vertexOf
          rw [if_pos ⟨⟨by assumption, by assumption⟩, by assumption, by assumption⟩]
          exact .cons ⟨_, rfl, by wtm_at "hp"⟩ .nil
        all_goals refine ⟨rfl, by wtm_at "sm", by wtm_at "hp", ys, hy, ?_, by omega⟩
        all_goals (rw [no (by omega), List.append_nil]; exact ha2)
      · rintro σ' H3 ⟨rfl, s3, hu3, ys, hy, ha2, hl⟩
        wtm_at "go"
        intro D hD
        refine lc_mapT upd_same hD (szt (by simp)) (fun j y H => OptN D H y (FpM.onEdge P' Q' false (if j = 0 then x0 else x1) z0 z1)) (fun _ _ _ _ h b => h.bt b) (fun j x H4 C G hj s4 acc kC => ?_) (fun zs H4 s4 hz hzl he => ?_)
        · change gName 10 _ [some _, some _, some _, some _, some _, some _, some _, some _, some _, some _, none, none, none, none] _ _
          obtain ⟨v, rfl, ev, mv⟩ : ∃ v : Int, x = .int v ∧ v = (if j = 0 then x0 else x1) ∧ Md v := by
            match j with
            | 0 => exact ⟨x0, by simpa using hj.symm, rfl, mm.1⟩
            | 1 => exact ⟨x1, by simpa using hj.symm, rfl, mm.2.2.1⟩
            | j + 2 => simp at hj
          wtm_at "go"
          refine do_on_edge false rfl (by wtm_at "hp") (by wtm_at "hp") ⟨smP.1, smP.2.1, smP.2.2.1, smP.2.2.2.1, smP.2.2.2.2.1, smP.2.2.2.2.2, mv, mm.2.1, mm.2.2.2⟩ fun y H5 s5 o5 => ?_
          obtain ⟨ac, ha⟩ := acc
          rw [ev] at o5
          exact kC _ _ s5 (.of (s5 _ _ ha) o5)
        · have hz2 : A2 (OptF H4) zs [FpM.onEdge P' Q' false x0 z0 z1, FpM.onEdge P' Q' false x1 z0 z1] := a2_two (f := fun j => FpM.onEdge P' Q' false (if j = 0 then x0 else x1) z0 z1) hzl fun j y h => (he j y h).f
          wtm_at "go"
          have hy4 : H4 F = some (.lst ys) := s4 _ _ (upd_new (by assumption) hy)
          have ht4 : Tk H3 H4 := by wtm_at "tt"
          have hu4 : T3 H4 u (FpM.nrm R).x (FpM.nrm R).y (FpM.nrm R).z := ht4 _ _ hu3
          have s34 : Same H H4 := by wtm_at "sm"
          have nFD : F ≠ D := ne_of_none (upd_new (by assumption) hy) hD
          refine i_extend hy4 hz (Nat.le_of_lt (szt (by have : zs.length = 2 := hzl; omega))) ?_
          have ha4 : A2 (OptF (upd H4 F (.lst (ys ++ zs)))) (ys ++ zs) (upto R x0 z0 x1 z1 i ++ FpM.vertexOf P' x0 z0 x1 z1 ++ [FpM.onEdge P' Q' false x0 z0 z1, FpM.onEdge P' Q' false x1 z0 z1]) :=
            (ha2.mono fun v o h => h.tt (ht4.trans (Tk.lst hy4))).append (hz2.mono fun v o h => h.tt (Tk.lst hy4))
          have hl4 : (ys ++ zs).length ≤ 5 * i + 3 := by have : zs.length = 2 := hzl; simp; omega
          have hy5 : upd H4 F (.lst (ys ++ zs)) F = some (.lst (ys ++ zs)) := upd_same
          have s5 : Same H (upd H4 F (.lst (ys ++ zs))) := same_mut hF s34
          have ht5 : Tk H (upd H4 F (.lst (ys ++ zs))) := (Tk.of s34).trans (Tk.lst hy4)
          have hu5 : T3 (upd H4 F (.lst (ys ++ zs))) u (FpM.nrm R).x (FpM.nrm R).y (FpM.nrm R).z := upd_tup hy4 hu4
          have hP5 : T3 (upd H4 F (.lst (ys ++ zs))) pa P'.x P'.y P'.z := ht5 _ _ hP
          have hQ5 : T3 (upd H4 F (.lst (ys ++ zs))) qa Q'.x Q'.y Q'.z := ht5 _ _ hQ
          generalize upd H4 F (.lst (ys ++ zs)) = H5 at *
          generalize ys ++ zs = ys5 at *
          wtm_at "go"
          intro D2 hD2
          refine lc_mapT upd_same hD2 (szt (by simp)) (fun j y H => OptN D2 H y (FpM.onEdge P' Q' true (if j = 0 then z0 else z1) x0 x1)) (fun _ _ _ _ h b => h.bt b) (fun j x H6 C G hj s6 acc kC => ?_) (fun zs6 H6 s6 hz6 hzl6 he6 => ?_)
          · change gName 10 _ [some _, some _, some _, some _, some _, some _, some _, some _, some _, some _, none, none, none, none] _ _
            obtain ⟨v, rfl, ev, mv⟩ : ∃ v : Int, x = .int v ∧ v = (if j = 0 then z0 else z1) ∧ Md v := by
              match j with
              | 0 => exact ⟨z0, by simpa using hj.symm, rfl, mm.2.1⟩
              | 1 => exact ⟨z1, by simpa using hj.symm, rfl, mm.2.2.2⟩
              | j + 2 => simp at hj
            wtm_at "go"
            refine do_on_edge true rfl (by wtm_at "hp") (by wtm_at "hp") ⟨smP.1, smP.2.1, smP.2.2.1, smP.2.2.2.1, smP.2.2.2.2.1, smP.2.2.2.2.2, mv, mm.1, mm.2.2.1⟩ fun y H7 s7 o7 => ?_
            obtain ⟨ac, ha⟩ := acc
            rw [ev] at o7
            exact kC _ _ s7 (.of (s7 _ _ ha) o7)
          · have hz62 : A2 (OptF H6) zs6 [FpM.onEdge P' Q' true z0 x0 x1, FpM.onEdge P' Q' true z1 x0 x1] := a2_two (f := fun j => FpM.onEdge P' Q' true (if j = 0 then z0 else z1) x0 x1) hzl6 fun j y h => (he6 j y h).f
            wtm_at "go"
            have hy6 : H6 F = some (.lst ys5) := s6 _ _ (upd_new (by assumption) hy5)
            have ht6 : Tk H5 H6 := by wtm_at "tt"
            refine i_extend hy6 hz6 (Nat.le_of_lt (szt (by have : zs6.length = 2 := hzl6; omega))) ?_
            refine ⟨⟨_, _, _, rfl⟩, same_mut hF (by wtm_at "sm"), upd_tup hy6 (ht6 _ _ hu5), _, upd_same, ?_, by have : zs6.length = 2 := hzl6; simp; omega⟩
            rw [eup]
            unfold FpM.edgeAll
            rw [← List.append_assoc, ← List.append_assoc]
            exact (ha4.mono fun v o h => h.tt (ht6.trans (Tk.lst hy6))).append (hz62.mono fun v o h => h.tt (Tk.lst hy6))
    · obtain ⟨⟨y7, y8, y9, rfl⟩, s2, hu2, ys, hy, ha2, hl⟩ := h2
      wtm_at "go"
      rename_i pt hpt
      refine for_tup (xs := [.int x0, .int x1]) (fun j σ H' => (∃ y11, σ = [some (.ref t), some (.int x0), some (.int z0), some (.int x1), some (.int z1), some (.ref F), some (.ref u), y7, y8, y9, none, y11, none, none]) ∧ Same H H' ∧ Tk (upd H2 pt (.tup [.int x0, .int x1])) H' ∧ T3 H' u (FpM.nrm R).x (FpM.nrm R).y (FpM.nrm R).z ∧
        ∃ ys, H' F = some (.lst ys) ∧ A2 (OptF H') ys (upto R x0 z0 x1 z1 3 ++ (if j = 0 then [] else if j = 1 then [FpM.atCorner R x0 z0, FpM.atCorner R x0 z1] else [FpM.atCorner R x0 z0, FpM.atCorner R x0 z1] ++ [FpM.atCorner R x1 z0, FpM.atCorner R x1 z1])) ∧ ys.length ≤ 15 + 2 * j)
        ⟨⟨_, rfl⟩, by wtm_at "sm", Tk.refl _, by wtm_at "hp", ys, by wtm_at "hp", by simpa using ha2.mono fun v o h => h.tt (Tk.new (by assumption)), by omega⟩ (fun j σ H3 hj h3 => SqT.of (h3.2.2.1 _ _ upd_same)) (fun j x σ H3 hj h3 => ?_) (fun σ H3 h3 => ?_)
      · obtain ⟨⟨y11, rfl⟩, s3, t3, hu3, ys3, hy3, ha3, hl3⟩ := h3
        obtain ⟨v, rfl, mv, ej⟩ : ∃ v : Int, x = .int v ∧ Md v ∧ ((if j + 1 = 0 then [] else if j + 1 = 1 then [FpM.atCorner R x0 z0, FpM.atCorner R x0 z1] else [FpM.atCorner R x0 z0, FpM.atCorner R x0 z1] ++ [FpM.atCorner R x1 z0, FpM.atCorner R x1 z1]) : List (Option (Int × Int))) =
            (if j = 0 then [] else if j = 1 then [FpM.atCorner R x0 z0, FpM.atCorner R x0 z1] else [FpM.atCorner R x0 z0, FpM.atCorner R x0 z1] ++ [FpM.atCorner R x1 z0, FpM.atCorner R x1 z1]) ++ [FpM.atCorner R v z0, FpM.atCorner R v z1] := by
          match j with
          | 0 => exact ⟨x0, by simpa using hj.symm, mm.1, rfl⟩
          | 1 => exact ⟨x1, by simpa using hj.symm, mm.2.2.1, rfl⟩
          | j + 2 => simp at hj
        wtm_at "go"
        rename_i pz hpz
        intro D hD
        refine lc_mapT upd_same hD (szt (by simp)) (fun i y H => OptN D H y (FpM.atCorner R v (if i = 0 then z0 else z1))) (fun _ _ _ _ h b => h.bt b) (fun i x H4 C G hi s4 acc kC => ?_) (fun zs H4 s4 hz hzl he => ?_)
        · change gName 12 _ [some _, some _, some _, some _, some _, some _, some _, _, _, _, none, some _, none, none] _ _
          obtain ⟨q, rfl, ev, mq⟩ : ∃ q : Int, x = .int q ∧ q = (if i = 0 then z0 else z1) ∧ Md q := by
            match i with
            | 0 => exact ⟨z0, by simpa using hi.symm, rfl, mm.2.1⟩
            | 1 => exact ⟨z1, by simpa using hi.symm, rfl, mm.2.2.2⟩
            | i + 2 => simp at hi
          wtm_at "go"
          refine do_at_corner (htr.tt (by wtm_at "tt")) sm (by wtm_at "hp") ⟨mv, mq⟩ fun y H5 s5 o5 => ?_
          obtain ⟨ac, ha⟩ := acc
          rw [ev] at o5
          exact kC _ _ s5 (.of (s5 _ _ ha) o5)
        · have hz2 : A2 (OptF H4) zs [FpM.atCorner R v z0, FpM.atCorner R v z1] := a2_two (f := fun i => FpM.atCorner R v (if i = 0 then z0 else z1)) hzl fun j y h => (he j y h).f
          wtm_at "go"
          have hy4 : H4 F = some (.lst ys3) := s4 _ _ (upd_new (by assumption) hy3)
          have ht4 : Tk H3 H4 := by wtm_at "tt"
          have hj2 : j < 2 := by have := (List.getElem?_eq_some_iff.mp hj).1; simpa using this
          refine i_extend hy4 hz (Nat.le_of_lt (szt (by have : zs.length = 2 := hzl; omega))) ?_
          refine ⟨⟨_, rfl⟩, same_mut hF (by wtm_at "sm"), t3.trans (ht4.trans (Tk.lst hy4)), upd_tup hy4 (ht4 _ _ hu3), _, upd_same, ?_, by have : zs.length = 2 := hzl; simp; omega⟩
          rw [ej, ← List.append_assoc]
          exact (ha3.mono fun v o h => h.tt (ht4.trans (Tk.lst hy4))).append (hz2.mono fun v o h => h.tt (Tk.lst hy4))
      · obtain ⟨⟨y11, rfl⟩, s3, t3, hu3, ys3, hy3, ha3, hl3⟩ := h3
        wtm_at "go"
        intro D hD
        have e3 : upto R x0 z0 x1 z1 3 ++ ([FpM.atCorner R x0 z0, FpM.atCorner R x0 z1] ++ [FpM.atCorner R x1 z0, FpM.atCorner R x1 z1]) = FpM.rawHeights R x0 z0 x1 z1 := by
          unfold FpM.rawHeights upto
          simp only [List.append_assoc]
        have ha4 : A2 (OptF H3) ys3 (FpM.rawHeights R x0 z0 x1 z1) := by rw [← e3]; exact ha3
        refine lc_filL ((FpM.rawHeights R x0 z0 x1 z1).map fun o => o.isSome) hy3 (by rw [List.length_map, ha4.length]) hD (szt (by have : ys3.length ≤ 15 + 2 * 2 := hl3; omega)) (fun i x b H4 C G hx hb s4 kT kF => ?_) (fun H4 s4 hz => ?_)
        · change gName 13 _ [some _, some _, some _, some _, some _, some _, some _, _, _, _, none, _, none, none] _ _
          obtain ⟨o, ho, oo⟩ := ha4.get hx
          have eb : b = o.isSome := by
            rw [List.getElem?_map, ho] at hb
            exact (Option.some.inj hb).symm
          wtm_at "go"
          refine i_notN ?_
          wtm_at "go"
          · refine kT ?_ _ (Same.refl _)
            cases o with
            | none => exact absurd oo (by assumption)
            | some f => exact eb
          · refine kF ?_ _ (Same.refl _)
            cases o with
            | none => exact eb
            | some f =>
              obtain ⟨q, rfl, _⟩ := oo
              rename_i hq
              cases hq
        · exact k _ _ _ (by wtm_at "sm") hz ((filt_opt ha4).mono fun v f h => h.tt (Tk.of s4))
end
section
/-! ### denominators are small -/
theorem posi_den {n d : Int} {B : Int} (h : -B ≤ d ∧ d ≤ B) : -B ≤ (FpM.posi n d).2 ∧ (FpM.posi n d).2 ≤ B := by
  unfold FpM.posi
  split <;> simp only <;> omega
theorem den_sm {R : FpM.Tr} (sm : TrSm R) {x0 z0 x1 z1 : Int} {h : Int × Int} (hm : h ∈ FpM.heightsM R x0 z0 x1 z1) : -8000000 ≤ h.2 ∧ h.2 ≤ 8000000 := by
  have nb := nrm_sm sm
  obtain ⟨⟨s1, s1'⟩, ⟨s2, s2'⟩, ⟨s3, s3'⟩, ⟨s4, s4'⟩, ⟨s5, s5'⟩, ⟨s6, s6'⟩, ⟨s7, s7'⟩, ⟨s8, s8'⟩, ⟨s9, s9'⟩⟩ := sm
  have edge : ∀ (p q : FpM.Pt) ax at_ lo hi, (-1000 ≤ p.x ∧ p.x ≤ 1000 ∧ -1000 ≤ p.z ∧ p.z ≤ 1000) → (-1000 ≤ q.x ∧ q.x ≤ 1000 ∧ -1000 ≤ q.z ∧ q.z ≤ 1000) → FpM.onEdge p q ax at_ lo hi = some h → -8000000 ≤ h.2 ∧ h.2 ≤ 8000000 := by
    intro p q ax at_ lo hi hp hq e
    unfold FpM.onEdge at e
    split at e
    · cases e
    · split at e
      · cases e
      · split at e
        · cases e
        · have e := Option.some.inj e
          rw [← e]
          have : -8000000 ≤ FpM.edgeDen p q ax ∧ FpM.edgeDen p q ax ≤ 8000000 := by
            unfold FpM.edgeDen FpM.co
            cases ax <;> simp <;> omega
          exact posi_den this
  have all : ∀ (p q : FpM.Pt), (-1000 ≤ p.x ∧ p.x ≤ 1000 ∧ -1000 ≤ p.z ∧ p.z ≤ 1000) → (-1000 ≤ q.x ∧ q.x ≤ 1000 ∧ -1000 ≤ q.z ∧ q.z ≤ 1000) → some h ∈ FpM.edgeAll p q x0 z0 x1 z1 → -8000000 ≤ h.2 ∧ h.2 ≤ 8000000 := by
    intro p q hp hq e
    unfold FpM.edgeAll FpM.vertexOf at e
    simp only [List.mem_append, List.mem_cons, List.not_mem_nil, or_false] at e
    rcases e with (e | e | e) | e | e
    · split at e
      · simp at e
        subst e
        simp
      · simp at e
    all_goals exact edge _ _ _ _ _ _ hp hq e.symm
  have cor : ∀ x z, FpM.atCorner R x z = some h → -8000000 ≤ h.2 ∧ h.2 ≤ 8000000 := by
    intro x z e
    unfold FpM.atCorner at e
    split at e
    · cases e
    · split at e
      · cases e
      · have e := Option.some.inj e
        rw [← e]
        exact posi_den ⟨by omega, by omega⟩
  unfold FpM.heightsM at hm
  have hm : some h ∈ FpM.rawHeights R x0 z0 x1 z1 := by simpa using hm
  unfold FpM.rawHeights at hm
  simp only [List.mem_append, List.mem_cons, List.not_mem_nil, or_false] at hm
  rcases hm with (((q | q) | q) | q | q) | q | q
  · exact all _ _ (by omega) (by omega) q
  · exact all _ _ (by omega) (by omega) q
  · exact all _ _ (by omega) (by omega) q
  all_goals exact cor _ _ q.symm
end
section
theorem i_tru {K : PySem.W.Frag} {H : Hp} {a : Addr} {xs : List V} {R : Bool → Hp → Prop} (s : H a = some (.lst xs)) (h : R (!xs.isEmpty) H) : ∃ k, TruV K (.ref a) H k ∧ R k H := ⟨_, .inl ⟨xs, SqL.of s, rfl⟩, h⟩
theorem i_truE {K : PySem.W.Frag} {σ : L2.St} {H : Hp} {ta : TE} {R : Bool → Hp → Prop} (h : ta σ H fun x H' => ∃ k, TruV K x H' k ∧ R k H') : tTru K ta σ H R := h
theorem cut1 (xs : List V) : cutV xs (some 1) none = xs.drop 1 := by
  unfold cutV
  have e1 : HT.sIx xs.length 0 (some 1) = min 1 xs.length := HT.sIx_nat xs.length 0 1
  rw [e1, HT.sIx_none]
  cases xs with
  | nil => rfl
  | cons x r =>
    have e2 : min 1 (x :: r).length = 1 := by simp
    rw [e2]
    simp
theorem i_sl {K : PySem.W.Frag} {σ : L2.St} {H : Hp} {Q : VK} {te : TE} {tl th : TO} (h : te σ H fun x H1 => tl σ H1 fun l H2 => th σ H2 fun u H3 => rSlL K x l u H3 Q) : tSl (rSlL K) te tl th σ H Q := h
theorem i_part {σ : L2.St} {H : Hp} {te : TE} {R : Option Int → Hp → Prop} (h : te σ H fun x H1 => ∃ i, x = V.int i ∧ R (some i) H1) : tPart te σ H R := h
theorem i_nopart {σ : L2.St} {H : Hp} {R : Option Int → Hp → Prop} (h : R none H) : tNoPart σ H R := h
theorem i_slL {K : PySem.W.Frag} {H : Hp} {Q : VK} {a : Addr} {xs : List V} {lo hi : Option Int} (s : H a = some (.lst xs)) (h : ∀ p, H p = none → Q (.ref p) (upd H p (.lst (cutV xs lo hi)))) : rSlL K (.ref a) lo hi H Q := ⟨a, xs, rfl, SqL.of s, h⟩
theorem do_heights {K : PySem.W.Frag} {H : Hp} {Q : VK} {t : Addr} {R : FpM.Tr} {x0 z0 x1 z1 : Int} (ht : TriAt H t R) (sm : TrSm R) (mm : Md x0 ∧ Md z0 ∧ Md x1 ∧ Md z1) (k : ∀ l ys H', Same H H' → H' l = some (.lst ys) → A2 (FrAt H') ys (FpM.heightsM R x0 z0 x1 z1) → Q (.ref l) H') :
    sp_heights K [.ref t, .int x0, .int z0, .int x1, .int z1] H Q E0 := ⟨t, R, x0, z0, x1, z1, rfl, ht, sm, mm, k⟩
theorem do_less {K : PySem.W.Frag} {H : Hp} {Q : VK} {u v : V} {f g : Int × Int} (hu : FrAt H u f) (hv : FrAt H v g) (hb : -1000000000000000 ≤ f.2 ∧ f.2 ≤ 1000000000000000 ∧ -1000000000000000 ≤ g.2 ∧ g.2 ≤ 1000000000000000) (k : ∀ H', Same H H' → Q (.bl (decide (f.1 * g.2 < g.1 * f.2))) H') :
    sp_less K [u, v] H Q E0 := by
  obtain ⟨p, rfl, hp⟩ := hu
  obtain ⟨q, rfl, hq⟩ := hv
  exact ⟨p, q, _, _, _, _, rfl, hp, hq, hb, k⟩
theorem pick_mem {s : List (Int × Int)} {acc : (Int × Int) × (Int × Int)} {g : Int × Int} (h1 : acc.1 ∈ s) (h2 : acc.2 ∈ s) (hg : g ∈ s) : (FpM.pick acc g).1 ∈ s ∧ (FpM.pick acc g).2 ∈ s := by
  unfold FpM.pick
  constructor
  · simp only; split <;> assumption
  · simp only; split <;> assumption
/-- an extent, or None -/
def ExtF (H : Hp) (v : V) : Option ((Int × Int) × (Int × Int)) → Prop
  | none => v = .non
  | some e => ∃ a p q, v = .ref a ∧ H a = some (.tup [.ref p, .ref q]) ∧ T2 H p e.1.1 e.1.2 ∧ T2 H q e.2.1 e.2.2
def sp_extent (_ : PySem.W.Frag) : Sp := fun vs H Q _ => ∃ (t : Addr) (R : FpM.Tr) (x0 z0 x1 z1 : Int), vs = [.ref t, .int x0, .int z0, .int x1, .int z1] ∧ TriAt H t R ∧ TrSm R ∧ (Md x0 ∧ Md z0 ∧ Md x1 ∧ Md z1) ∧
  ∀ v H', Same H H' → ExtF H' v (FpM.extentM R x0 z0 x1 z1) → Q v H'
abbrev s_extent : Stmt := topS 39
abbrev N_extent : List Str := ["triangle", "x0", "z0", "x1", "z1", "found", "low", "high", "height"]
theorem sc_extent : FnScope N_extent ["triangle", "x0", "z0", "x1", "z1"] (defScope s_extent) := ⟨rfl, rfl, rfl, by decide +kernel, rfl, by decide +kernel, by decide +kernel⟩
theorem bd_extent : BindsOf ["triangle", "x0", "z0", "x1", "z1"] "extent" "extent" s_extent := fun _ _ _ _ _ _ us hl => match us, hl with | [_, _, _, _, _], _ => rfl
theorem cal_extent {P : Program} {w : World} {K : PySem.W.Frag} {mg : Str → Option Value} {base : Heap} (T : Tx K mg) : Cal P w K mg base "extent" 4 ["triangle", "x0", "z0", "x1", "z1"] (sp_extent K) := by
  refine T.extent.cal sc_extent bd_extent (fun vs H Q E h => ?_) (fun f cdv A outer s H vs Q E hr h => ?_)
  · obtain ⟨t, R, x0, z0, x1, z1, rfl, htr, sm, mm, k⟩ := h; rfl
  · have hu := hu_of hr
    obtain ⟨t, R, x0, z0, x1, z1, rfl, htr, sm, mm, k⟩ := h
    refine ⟨_, (pss_cons (ps_set (i := 5) sc_extent.nd rfl (.inl rfl) (pe_callC (cal_heights (K := K) T) (hr.mono (by decide)) (by rfl) (pa_cons (pv 0) (pa_cons (pv 1) (pa_cons (pv 2) (pa_cons (pv 3) (pa_cons (pv 4) pa_nil)))))))
      (pss_cons (ps_if (pt_not (pt_tr (pv 5))) (pss_one (ps_ret pe_non)) pss_nil)
      (pss_cons (ps_set (i := 6) sc_extent.nd rfl (.inl rfl) (pe_ix (x_list K) (pv 5) pe_int (fun _ _ => rfl)))
      (pss_cons (ps_set (i := 7) sc_extent.nd rfl (.inl rfl) (pe_ix (x_list K) (pv 5) pe_int (fun _ _ => rfl)))
      (pss_cons (ps_for PassesOwn.never rfl (pi_list (pe_slice sl_list (pv 5) (po_some pe_int) po_none)) (pg_name (i := 8) sc_extent.nd rfl (.inl rfl)) (Evl.pss_cut (ps_if (pt_val (pe_callC (cal_less (K := K) T) (hr.mono (by decide)) (by rfl) (pa_cons (pv 8) (pa_cons (pv 6) pa_nil)))) (pss_one (ps_set (i := 6) sc_extent.nd rfl (.inl rfl) (pv 8))) pss_nil)
      (pss_one (ps_if (pt_val (pe_callC (cal_less (K := K) T) (hr.mono (by decide)) (by rfl) (pa_cons (pv 7) (pa_cons (pv 8) pa_nil)))) (pss_one (ps_set (i := 7) sc_extent.nd rfl (.inl rfl) (pv 8))) pss_nil))))
      (pss_one (ps_ret (pe_tup (pa_cons (pv 6) (pa_cons (pv 7) pa_nil)))))))))), ?_⟩
    change (_ : TS) _ [some _, some _, some _, some _, some _, none, none, none, none] H
    wtm_at "go"
    refine do_heights htr sm mm fun l ys H1 s1 hl ha => ?_
    wtm_at "go"
    refine i_truE ?_
    wtm_at "go"
    refine ⟨_, .inl ⟨_, SqL.of hl, rfl⟩, ?_⟩
    cases hh : FpM.heightsM R x0 z0 x1 z1 with
    | nil =>
      rw [hh] at ha
      cases ha
      refine i_bt ?_
      wtm_at "go"
      refine k _ _ (by wtm_at "sm") ?_
      unfold FpM.extentM
      rw [hh]
      rfl
    | cons h r =>
      have hden : ∀ g ∈ h :: r, -8000000 ≤ g.2 ∧ g.2 ≤ 8000000 := fun g hg => den_sm sm (by rw [hh]; exact hg)
      rw [hh] at ha
      cases ha with
      | @cons y _ ys _ hy har =>
      refine i_bf ?_
      wtm_at "go"
      refine i_sl ?_
      wtm_at "go"
      refine i_part ?_
      wtm_at "go"
      refine ⟨1, rfl, ?_⟩
      refine i_nopart ?_
      refine i_slL hl fun p hp => ?_
      rw [cut1]
      wtm_at "go"
      refine for_list (K := K) (a := p) (xs := ys) (fun i σ H' => ∃ (acc : (Int × Int) × (Int × Int)) (vl vh : V) (y8 : Option V), σ = [some (.ref t), some (.int x0), some (.int z0), some (.int x1), some (.int z1), some (.ref l), some vl, some vh, y8] ∧
        acc = (r.take i).foldl FpM.pick (h, h) ∧ acc.1 ∈ h :: r ∧ acc.2 ∈ h :: r ∧ Same (upd H1 p (.lst ys)) H' ∧ FrAt H' vl acc.1 ∧ FrAt H' vh acc.2) ⟨(h, h), y, y, none, rfl, rfl, List.mem_cons_self, List.mem_cons_self, Same.refl _, hy.tt (Tk.new hp), hy.tt (Tk.new hp)⟩
        (fun i σ H' _ h' => by obtain ⟨_, _, _, _, _, _, _, _, s', _, _⟩ := h'; exact SqL.of (s' _ _ upd_same)) (fun i x σ H2 hx h2 => ?_) (fun σ H2 h2 => ?_)
      · obtain ⟨acc, vl, vh, y8, rfl, ea, m1, m2, s2, f1, f2⟩ := h2
        obtain ⟨g, hg, fg⟩ := har.get hx
        have fg2 : FrAt H2 x g := fg.tt ((Tk.new hp).trans (Tk.of s2))
        have mg : g ∈ h :: r := List.mem_cons_of_mem _ (List.mem_of_getElem? hg)
        have dg := hden g mg
        have d1 := hden _ m1
        have d2 := hden _ m2
        have et : (r.take (i + 1)).foldl FpM.pick (h, h) = FpM.pick acc g := by
          rw [List.take_add_one, hg, List.foldl_append, ← ea]
          rfl
        wtm_at "go"
        refine i_cut (fun σ' H' => ∃ vl', σ' = [some (.ref t), some (.int x0), some (.int z0), some (.int x1), some (.int z1), some (.ref l), some vl', some vh, some x] ∧ Same H2 H' ∧ FrAt H' vl' (FpM.pick acc g).1) ?_ ?_
        · wtm_at "go"
          refine do_less fg2 f1 (by omega) fun H3 s3 => ?_
          wtm_at "go"
          · refine ⟨_, rfl, s3, ?_⟩
            unfold FpM.pick
            rw [if_pos (by assumption)]
            exact fg2.tt (Tk.of s3)
          · refine ⟨_, rfl, s3, ?_⟩
            unfold FpM.pick
            rw [if_neg (by assumption)]
            exact f1.tt (Tk.of s3)
        · rintro σ' H3 ⟨vl', rfl, s3, f3⟩
          have f2' := f2.tt (Tk.of s3)
          have fg3 := fg2.tt (Tk.of s3)
          wtm_at "go"
          refine do_less f2' fg3 (by omega) fun H4 s4 => ?_
          wtm_at "go"
          · refine ⟨FpM.pick acc g, _, _, _, rfl, et.symm, (pick_mem m1 m2 mg).1, (pick_mem m1 m2 mg).2, by wtm_at "sm", f3.tt (Tk.of s4), ?_⟩
            · unfold FpM.pick
              rw [if_pos (show acc.2.1 * g.2 < g.1 * acc.2.2 by assumption)]
              exact fg3.tt (Tk.of s4)
          · refine ⟨FpM.pick acc g, _, _, _, rfl, et.symm, (pick_mem m1 m2 mg).1, (pick_mem m1 m2 mg).2, by wtm_at "sm", f3.tt (Tk.of s4), ?_⟩
            · unfold FpM.pick
              rw [if_neg (show ¬ acc.2.1 * g.2 < g.1 * acc.2.2 by assumption)]
              exact f2'.tt (Tk.of s4)
      · obtain ⟨acc, vl, vh, y8, rfl, ea, m1, m2, s2, ⟨ql, rfl, f1⟩, ⟨qh, rfl, f2⟩⟩ := h2
        wtm_at "go"
        refine k _ _ (by wtm_at "sm") ?_
        unfold FpM.extentM
        rw [hh]
        have el : r.take ys.length = r := by rw [har.length]; exact List.take_length
        rw [el] at ea
        show ExtF _ _ (some (r.foldl FpM.pick (h, h)))
        rw [← ea]
        exact ⟨_, _, _, rfl, upd_same, by wtm_at "hp", by wtm_at "hp"⟩
end
section
/-! ### the settings' instance -/
def sf (M : FpM.Me) (h st tl : Int) (sl : Addr) : List (Str × V) :=
  [("tall", .int M.tall), ("rise", .int M.rise), ("columns", .int M.columns), ("rows", .int M.rows), ("cell", .int M.cell), ("level", .int M.level), ("width", .int M.width), ("height", .int h), ("step", .int st),
    ("slope", .ref sl), ("slack", .int M.slack), ("tile", .int tl), ("reach", .int M.reach)]
structure MeOk (M : FpM.Me) (tl : Int) : Prop where
  columns : 1 ≤ M.columns ∧ M.columns ≤ 6
  rows : 1 ≤ M.rows ∧ M.rows ≤ 4
  cell : 3 ≤ M.cell ∧ M.cell ≤ 10
  level : 1 ≤ M.level ∧ M.level ≤ 5
  width : 0 ≤ M.width ∧ M.width ≤ 20
  tall : 1 ≤ M.tall ∧ M.tall ≤ 10
  rise : 0 ≤ M.rise ∧ M.rise ≤ 10
  reach : 0 ≤ M.reach ∧ M.reach ≤ 4
  slack : 0 ≤ M.slack ∧ M.slack ≤ 3
  slope : 0 ≤ M.sn ∧ M.sn ≤ 1000 ∧ 0 ≤ M.sd ∧ M.sd ≤ 1000
  tile : 2 ≤ tl ∧ tl ≤ 5
  wr : M.width ≤ M.reach * M.cell
/-- an instance of the settings at a -/
structure SeAt (K : PySem.W.Frag) (H : Hp) (a : Addr) (M : FpM.Me) (tl : Int) : Prop where
  ex : ∃ (dx : Addr) (h st : Int) (sl : Addr), H a = some (.ins (CS K) dx (sf M h st tl sl)) ∧ T2 H sl M.sn M.sd
  ok : MeOk M tl
theorem SeAt.same {K : PySem.W.Frag} {H H' : Hp} {a : Addr} {M : FpM.Me} {tl : Int} (h : SeAt K H a M tl) (s : Same H H') : SeAt K H' a M tl := by
  obtain ⟨dx, h1, h2, sl, e1, e2⟩ := h.ex
  exact ⟨⟨dx, h1, h2, sl, s _ _ e1, s _ _ e2⟩, h.ok⟩
def fldR (K : PySem.W.Frag) (f : Str) (x : V) (H : Hp) (Q : VK) : Prop := ∃ a C dx fs v, x = V.ref a ∧ H a = some (.ins C dx fs) ∧ Cls K C ∧ NoAttr K C f ∧ fs.lookup f = some v ∧ Q v H
theorem i_fld {K : PySem.W.Frag} {f : Str} {σ : L2.St} {H : Hp} {Q : VK} {ta : TE} (h : ta σ H fun x H1 => fldR K f x H1 Q) : tFld K ta f σ H Q := h
section
variable {K : PySem.W.Frag} {mg : Str → Option Value} {H : Hp} {Q : VK} {a dx sl : Addr} {M : FpM.Me} {h st tl : Int} (s : H a = some (.ins (CS K) dx (sf M h st tl sl))) (T : Tx K mg)
include s T
theorem f_tall (q : Q (.int M.tall) H) : fldR K "tall" (.ref a) H Q := ⟨a, _, dx, _, _, rfl, s, T.cls, T.n_tall, rfl, q⟩
theorem f_rise (q : Q (.int M.rise) H) : fldR K "rise" (.ref a) H Q := ⟨a, _, dx, _, _, rfl, s, T.cls, T.n_rise, rfl, q⟩
theorem f_columns (q : Q (.int M.columns) H) : fldR K "columns" (.ref a) H Q := ⟨a, _, dx, _, _, rfl, s, T.cls, T.n_columns, rfl, q⟩
theorem f_rows (q : Q (.int M.rows) H) : fldR K "rows" (.ref a) H Q := ⟨a, _, dx, _, _, rfl, s, T.cls, T.n_rows, rfl, q⟩
theorem f_cell (q : Q (.int M.cell) H) : fldR K "cell" (.ref a) H Q := ⟨a, _, dx, _, _, rfl, s, T.cls, T.n_cell, rfl, q⟩
theorem f_level (q : Q (.int M.level) H) : fldR K "level" (.ref a) H Q := ⟨a, _, dx, _, _, rfl, s, T.cls, T.n_level, rfl, q⟩
theorem f_width (q : Q (.int M.width) H) : fldR K "width" (.ref a) H Q := ⟨a, _, dx, _, _, rfl, s, T.cls, T.n_width, rfl, q⟩
theorem f_slope (q : Q (.ref sl) H) : fldR K "slope" (.ref a) H Q := ⟨a, _, dx, _, _, rfl, s, T.cls, T.n_slope, rfl, q⟩
theorem f_slack (q : Q (.int M.slack) H) : fldR K "slack" (.ref a) H Q := ⟨a, _, dx, _, _, rfl, s, T.cls, T.n_slack, rfl, q⟩
theorem f_tile (q : Q (.int tl) H) : fldR K "tile" (.ref a) H Q := ⟨a, _, dx, _, _, rfl, s, T.cls, T.n_tile, rfl, q⟩
theorem f_reach (q : Q (.int M.reach) H) : fldR K "reach" (.ref a) H Q := ⟨a, _, dx, _, _, rfl, s, T.cls, T.n_reach, rfl, q⟩
end
end
local macro_rules | `(tactic| wtm_at "fld") => `(tactic| first
  | ((with_reducible show fldR _ "tall" _ _ _); refine f_tall (by wtm_at "hp") (by assumption) ?_)
  | ((with_reducible show fldR _ "rise" _ _ _); refine f_rise (by wtm_at "hp") (by assumption) ?_)
  | ((with_reducible show fldR _ "columns" _ _ _); refine f_columns (by wtm_at "hp") (by assumption) ?_)
  | ((with_reducible show fldR _ "rows" _ _ _); refine f_rows (by wtm_at "hp") (by assumption) ?_)
  | ((with_reducible show fldR _ "cell" _ _ _); refine f_cell (by wtm_at "hp") (by assumption) ?_)
  | ((with_reducible show fldR _ "level" _ _ _); refine f_level (by wtm_at "hp") (by assumption) ?_)
  | ((with_reducible show fldR _ "width" _ _ _); refine f_width (by wtm_at "hp") (by assumption) ?_)
  | ((with_reducible show fldR _ "slope" _ _ _); refine f_slope (by wtm_at "hp") (by assumption) ?_)
  | ((with_reducible show fldR _ "slack" _ _ _); refine f_slack (by wtm_at "hp") (by assumption) ?_)
  | ((with_reducible show fldR _ "tile" _ _ _); refine f_tile (by wtm_at "hp") (by assumption) ?_)
  | ((with_reducible show fldR _ "reach" _ _ _); refine f_reach (by wtm_at "hp") (by assumption) ?_))
local macro_rules | `(tactic| wtm_at "call") => `(tactic| first
  | with_reducible refine i_fld ?_
  | ((with_reducible show fldR _ _ _ _ _); wtm_at "fld"))
section
def sp_ceiled (_ : PySem.W.Frag) : Sp := fun vs H Q _ => ∃ (n u : Int), vs = [.int n, .int u] ∧ (0 < u ∧ u < 1073741824) ∧ ∀ H', Same H H' → Q (.int (FpM.ceilM n u)) H'
abbrev s_ceiled : Stmt := topS 27
abbrev N_ceiled : List Str := ["number", "unit"]
theorem sc_ceiled : FnScope N_ceiled ["number", "unit"] (defScope s_ceiled) := ⟨rfl, rfl, rfl, by decide +kernel, rfl, by decide +kernel, by decide +kernel⟩
theorem bd_ceiled : BindsOf ["number", "unit"] "ceiled" "ceiled" s_ceiled := fun _ _ _ _ _ _ us hl => match us, hl with | [_, _], _ => rfl
theorem cal_ceiled {P : Program} {w : World} {K : PySem.W.Frag} {mg : Str → Option Value} {base : Heap} (T : Tx K mg) : Cal P w K mg base "ceiled" 1 ["number", "unit"] (sp_ceiled K) := by
  refine T.ceiled.cal sc_ceiled bd_ceiled (fun vs H Q E h => ?_) (fun f cdv A outer s H vs Q E hr h => ?_)
  · obtain ⟨n, u, rfl, hu', k⟩ := h; rfl
  · have hu := hu_of hr
    obtain ⟨n, u, rfl, hu', k⟩ := h
    refine ⟨_, (pss_one (ps_ret (pe_un u_neg (pe_op o_fdiv (pe_un u_neg (pv 0)) (pv 1))))), ?_⟩
    change (_ : TS) _ [some _, some _] H
    wtm_at "go"
    exact k _ (Same.refl _)
theorem do_ceiled {K : PySem.W.Frag} {H : Hp} {Q : VK} {n u : Int} (hu : 0 < u ∧ u < 1073741824) (k : ∀ H', Same H H' → Q (.int (FpM.ceilM n u)) H') : sp_ceiled K [.int n, .int u] H Q E0 := ⟨n, u, rfl, hu, k⟩
abbrev T4 (H : Hp) (a : Addr) (x y z w : Int) : Prop := H a = some (.tup [.int x, .int y, .int z, .int w])
def sp_square (K : PySem.W.Frag) : Sp := fun vs H Q _ => ∃ (s : Addr) (M : FpM.Me) (tl i k : Int), vs = [.ref s, .int i, .int k] ∧ SeAt K H s M tl ∧ ∀ r H', Same H H' → T4 H' r (i * M.cell) (k * M.cell) ((i + 1) * M.cell) ((k + 1) * M.cell) → Q (.ref r) H'
abbrev s_square : Stmt := topS 41
abbrev N_square : List Str := ["settings", "i", "k", "cell"]
theorem sc_square : FnScope N_square ["settings", "i", "k"] (defScope s_square) := ⟨rfl, rfl, rfl, by decide +kernel, rfl, by decide +kernel, by decide +kernel⟩
theorem bd_square : BindsOf ["settings", "i", "k"] "square" "square" s_square := fun _ _ _ _ _ _ us hl => match us, hl with | [_, _, _], _ => rfl
theorem cal_square {P : Program} {w : World} {K : PySem.W.Frag} {mg : Str → Option Value} {base : Heap} (T : Tx K mg) : Cal P w K mg base "square" 1 ["settings", "i", "k"] (sp_square K) := by
  refine T.square.cal sc_square bd_square (fun vs H Q E h => ?_) (fun f cdv A outer s H vs Q E hr h => ?_)
  · obtain ⟨se, M, tl, i, k, rfl, ⟨⟨dx, h1, h2, sl, e1, e2⟩, mo⟩, kk⟩ := h; rfl
  · have hu := hu_of hr
    obtain ⟨se, M, tl, i, k, rfl, ⟨⟨dx, h1, h2, sl, e1, e2⟩, mo⟩, kk⟩ := h
    refine ⟨_, (pss_cons (ps_set (i := 3) sc_square.nd rfl (.inl rfl) (pe_fld (pv 0) rfl))
      (pss_one (ps_ret (pe_tup (pa_cons (pe_op o_mul (pv 1) (pv 3)) (pa_cons (pe_op o_mul (pv 2) (pv 3)) (pa_cons (pe_op o_mul (pe_op o_add (pv 1) pe_int) (pv 3)) (pa_cons (pe_op o_mul (pe_op o_add (pv 2) pe_int) (pv 3)) pa_nil)))))))), ?_⟩
    change (_ : TS) _ [some _, some _, some _, none] H
    have mc := mo.cell
    wtm_at "go"
    exact kk _ _ (by wtm_at "sm") upd_same
theorem do_square {K : PySem.W.Frag} {H : Hp} {Q : VK} {s : Addr} {M : FpM.Me} {tl i k : Int} (hs : SeAt K H s M tl) (kk : ∀ r H', Same H H' → T4 H' r (i * M.cell) (k * M.cell) ((i + 1) * M.cell) ((k + 1) * M.cell) → Q (.ref r) H') : sp_square K [.ref s, .int i, .int k] H Q E0 := ⟨s, M, tl, i, k, rfl, hs, kk⟩
end
section
theorem md_of {M : FpM.Me} {tl i : Int} (m : MeOk M tl) (h : 0 ≤ i ∧ i ≤ 10) : Md (i * M.cell) := by
  have mc := m.cell
  have k1 := FpM.mul_nn h.1 (show 0 ≤ M.cell by omega)
  have k2 := FpM.scale (w := M.cell) (by omega) h.2
  constructor <;> omega
theorem do_extent {K : PySem.W.Frag} {H : Hp} {Q : VK} {t : Addr} {R : FpM.Tr} {x0 z0 x1 z1 : Int} (ht : TriAt H t R) (sm : TrSm R) (mm : Md x0 ∧ Md z0 ∧ Md x1 ∧ Md z1) (k : ∀ v H', Same H H' → ExtF H' v (FpM.extentM R x0 z0 x1 z1) → Q v H') :
    sp_extent K [.ref t, .int x0, .int z0, .int x1, .int z1] H Q E0 := ⟨t, R, x0, z0, x1, z1, rfl, ht, sm, mm, k⟩
theorem do_is_flat {K : PySem.W.Frag} {H : Hp} {Q : VK} {t s : Addr} {R : FpM.Tr} {sn sd : Int} (ht : TriAt H t R) (sm : TrSm R) (hs : T2 H s sn sd) (hb : 0 ≤ sn ∧ sn ≤ 1000 ∧ 0 ≤ sd ∧ sd ≤ 1000) (k : ∀ H', Same H H' → Q (.bl (FpM.flatM R sn sd)) H') :
    sp_is_flat K [.ref t, .ref s] H Q E0 := ⟨t, s, R, sn, sd, rfl, ht, sm, hs, hb, k⟩
def topV : Option Int → V
  | none => .non
  | some i => .int i
/-- a solid, or None -/
def SolAt (H : Hp) (v : V) (s : FpM.Sol) : Prop := ∃ a, v = .ref a ∧ H a = some (.tup [.int s.1, .int s.2.1, topV s.2.2])
def SolF (H : Hp) (v : V) : Option FpM.Sol → Prop
  | none => v = .non
  | some s => SolAt H v s
theorem SolAt.tt {H H' : Hp} {v : V} {s : FpM.Sol} (h : SolAt H v s) (t : Tk H H') : SolAt H' v s := by
  obtain ⟨a, rfl, e⟩ := h
  exact ⟨a, rfl, t _ _ e⟩
theorem SolF.tt {H H' : Hp} {v : V} {o : Option FpM.Sol} (h : SolF H v o) (t : Tk H H') : SolF H' v o := by
  cases o with
  | none => exact h
  | some s => exact SolAt.tt h t
def sp_triangle_solid (K : PySem.W.Frag) : Sp := fun vs H Q _ => ∃ (s t : Addr) (M : FpM.Me) (tl : Int) (R : FpM.Tr) (i k : Int), vs = [.ref s, .ref t, .int i, .int k] ∧ SeAt K H s M tl ∧ TriAt H t R ∧ TrSm R ∧ (0 ≤ i ∧ i < 10 ∧ 0 ≤ k ∧ k < 10) ∧
  ∀ v H', Same H H' → SolF H' v (M.tri R i k) → Q v H'
abbrev s_triangle_solid : Stmt := topS 42
abbrev N_triangle_solid : List Str := ["settings", "triangle", "i", "k", "x0", "z0", "x1", "z1", "found", "low", "high", "lo", "hi"]
theorem sc_triangle_solid : FnScope N_triangle_solid ["settings", "triangle", "i", "k"] (defScope s_triangle_solid) := ⟨rfl, rfl, rfl, by decide +kernel, rfl, by decide +kernel, by decide +kernel⟩
theorem bd_triangle_solid : BindsOf ["settings", "triangle", "i", "k"] "triangle_solid" "triangle_solid" s_triangle_solid := fun _ _ _ _ _ _ us hl => match us, hl with | [_, _, _, _], _ => rfl
theorem cal_triangle_solid {P : Program} {w : World} {K : PySem.W.Frag} {mg : Str → Option Value} {base : Heap} (T : Tx K mg) : Cal P w K mg base "triangle_solid" 5 ["settings", "triangle", "i", "k"] (sp_triangle_solid K) := by
  refine T.triangle_solid.cal sc_triangle_solid bd_triangle_solid (fun vs H Q E h => ?_) (fun f cdv A outer s H vs Q E hr h => ?_)
  · obtain ⟨se, t, M, tl, R, i, k, rfl, hse, htr, sm, hik, kk⟩ := h; rfl
  · have hu := hu_of hr
    obtain ⟨se, t, M, tl, R, i, k, rfl, hse, htr, sm, hik, kk⟩ := h
    refine ⟨_, (pss_cons (ps_asg (pe_callC (cal_square (K := K) T) (hr.mono (by decide)) (by rfl) (pa_cons (pv 0) (pa_cons (pv 2) (pa_cons (pv 3) pa_nil)))) (pg_tup rfl (pgs_cons (pg_name (i := 4) sc_triangle_solid.nd rfl (.inl rfl)) (pgs_cons (pg_name (i := 5) sc_triangle_solid.nd rfl (.inl rfl)) (pgs_cons (pg_name (i := 6) sc_triangle_solid.nd rfl (.inl rfl)) (pgs_cons (pg_name (i := 7) sc_triangle_solid.nd rfl (.inl rfl)) pgs_nil))))))
      (pss_cons (ps_set (i := 8) sc_triangle_solid.nd rfl (.inl rfl) (pe_callC (cal_extent (K := K) T) (hr.mono (by decide)) (by rfl) (pa_cons (pv 1) (pa_cons (pv 4) (pa_cons (pv 5) (pa_cons (pv 6) (pa_cons (pv 7) pa_nil)))))))
      (pss_cons (ps_if (pt_cmpR op_isN1 (pv 8) pe_non (nomark _)) (pss_one (ps_ret pe_non)) pss_nil)
      (pss_cons (ps_asg (pv 8) (pg_tup rfl (pgs_cons (pg_name (i := 9) sc_triangle_solid.nd rfl (.inl rfl)) (pgs_cons (pg_name (i := 10) sc_triangle_solid.nd rfl (.inl rfl)) pgs_nil))))
      (pss_cons (ps_set (i := 11) sc_triangle_solid.nd rfl (.inl rfl) (pe_op o_fdiv (pe_ix (x_tup K) (pv 9) pe_int (fun _ _ => rfl)) (pe_op o_mul (pe_ix (x_tup K) (pv 9) pe_int (fun _ _ => rfl)) (pe_fld (pv 0) rfl))))
      (pss_cons (ps_set (i := 12) sc_triangle_solid.nd rfl (.inl rfl) (pe_callB (c_max2 rfl) (by rfl) T.max b_max (pa_cons (pe_op o_add (pv 11) pe_int) (pa_cons (pe_callC (cal_ceiled (K := K) T) (hr.mono (by decide)) (by rfl) (pa_cons (pe_ix (x_tup K) (pv 10) pe_int (fun _ _ => rfl)) (pa_cons (pe_op o_mul (pe_ix (x_tup K) (pv 10) pe_int (fun _ _ => rfl)) (pe_fld (pv 0) rfl)) pa_nil))) pa_nil))))
      (pss_one (ps_ret (pe_tup (pa_cons (pv 11) (pa_cons (pv 12) (pa_cons (pe_ifExp (pt_val (pe_callC (cal_is_flat (K := K) T) (hr.mono (by decide)) (by rfl) (pa_cons (pv 1) (pa_cons (pe_fld (pv 0) rfl) pa_nil)))) (pv 12) pe_non) pa_nil)))))))))))), ?_⟩
    change (_ : TS) _ [some _, some _, some _, some _, none, none, none, none, none, none, none, none, none] H
    have ⟨⟨dx, h1, h2, sl, e1, e2⟩, mo⟩ := hse
    have mc := mo.cell
    have ml := mo.level
    wtm_at "go"
    refine do_square hse fun r H1 s1 hr1 => ?_
    wtm_at "go"
    refine do_extent (htr.tt (by wtm_at "tt")) sm ⟨md_of mo (by omega), md_of mo (by omega), md_of mo (by omega), md_of mo (by omega)⟩ fun v H2 s2 ev => ?_
    cases he : FpM.extentM R (i * M.cell) (k * M.cell) ((i + 1) * M.cell) ((k + 1) * M.cell) with
    | none =>
      rw [he] at ev
      obtain rfl : v = .non := ev
      wtm_at "go"
      refine kk _ _ (by wtm_at "sm") ?_
      unfold FpM.Me.tri FpM.triM
      rw [he]
      rfl
    | some e =>
      obtain ⟨low, high⟩ := e
      have hx : i * M.cell ≤ (i + 1) * M.cell := by rw [Int.add_mul]; omega
      have hz : k * M.cell ≤ (k + 1) * M.cell := by rw [Int.add_mul]; omega
      have L := FpM.extent_least hx hz he
      have pl := (FpM.heights_sound hx hz L.inl).1
      have ph := (FpM.heights_sound hx hz L.inh).1
      have bl := den_sm sm L.inl
      have bh := den_sm sm L.inh
      simp only at pl ph bl bh
      have dl : 0 < low.2 * M.level ∧ low.2 * M.level < 1073741824 := by
        have a1 := Int.mul_pos pl (show 0 < M.level by omega)
        have a2 := FpM.scale (w := M.level) (by omega) bl.2
        omega
      have dh : 0 < high.2 * M.level ∧ high.2 * M.level < 1073741824 := by
        have a1 := Int.mul_pos ph (show 0 < M.level by omega)
        have a2 := FpM.scale (w := M.level) (by omega) bh.2
        omega
      rw [he] at ev
      obtain ⟨a, p, q, rfl, ea, ep, eq⟩ := ev
      simp only at ep eq
      have et : M.tri R i k = some (low.1 / (low.2 * M.level), FpM.mx (low.1 / (low.2 * M.level) + 1) (FpM.ceilM high.1 (high.2 * M.level)),
          if FpM.flatM R M.sn M.sd then some (FpM.mx (low.1 / (low.2 * M.level) + 1) (FpM.ceilM high.1 (high.2 * M.level))) else none) := by
        unfold FpM.Me.tri FpM.triM
        rw [he]
      rw [et] at kk
      wtm_at "go"
      refine do_ceiled dh fun H3 s3 => ?_
      wtm_at "go"
      have slo := mo.slope
      refine do_is_flat (htr.tt (by wtm_at "tt")) sm (by wtm_at "hp") (by omega) fun H4 s4 => ?_
      cases hf : FpM.flatM R M.sn M.sd
      · rw [hf] at kk
        wtm_at "go"
        exact kk _ _ (by wtm_at "sm") ⟨_, rfl, upd_same⟩
      · rw [hf] at kk
        wtm_at "go"
        exact kk _ _ (by wtm_at "sm") ⟨_, rfl, upd_same⟩
theorem do_triangle_solid {K : PySem.W.Frag} {H : Hp} {Q : VK} {s t : Addr} {M : FpM.Me} {tl : Int} {R : FpM.Tr} {i k : Int} (hs : SeAt K H s M tl) (ht : TriAt H t R) (sm : TrSm R) (hik : 0 ≤ i ∧ i < 10 ∧ 0 ≤ k ∧ k < 10) (kk : ∀ v H', Same H H' → SolF H' v (M.tri R i k) → Q v H') :
    sp_triangle_solid K [.ref s, .ref t, .int i, .int k] H Q E0 := ⟨s, t, M, tl, R, i, k, rfl, hs, ht, sm, hik, kk⟩
/-- a box at a -/
def BxAt (H : Hp) (a : Addr) (b : FpM.Bx) : Prop := H a = some (.tup [.int b.x0, .int b.y0, .int b.z0, .int b.x1, .int b.y1, .int b.z1, .bl b.flat])
def sp_box_solid (K : PySem.W.Frag) : Sp := fun vs H Q _ => ∃ (s t : Addr) (M : FpM.Me) (tl : Int) (B : FpM.Bx) (i k : Int), vs = [.ref s, .ref t, .int i, .int k] ∧ SeAt K H s M tl ∧ BxAt H t B ∧
  ∀ v H', Same H H' → SolF H' v (M.box B i k) → Q v H'
abbrev s_box_solid : Stmt := topS 43
abbrev N_box_solid : List Str := ["settings", "box", "i", "k", "x0", "z0", "x1", "z1", "hi"]
theorem sc_box_solid : FnScope N_box_solid ["settings", "box", "i", "k"] (defScope s_box_solid) := ⟨rfl, rfl, rfl, by decide +kernel, rfl, by decide +kernel, by decide +kernel⟩
theorem bd_box_solid : BindsOf ["settings", "box", "i", "k"] "box_solid" "box_solid" s_box_solid := fun _ _ _ _ _ _ us hl => match us, hl with | [_, _, _, _], _ => rfl
theorem cal_box_solid {P : Program} {w : World} {K : PySem.W.Frag} {mg : Str → Option Value} {base : Heap} (T : Tx K mg) : Cal P w K mg base "box_solid" 2 ["settings", "box", "i", "k"] (sp_box_solid K) := by
  refine T.box_solid.cal sc_box_solid bd_box_solid (fun vs H Q E h => ?_) (fun f cdv A outer s H vs Q E hr h => ?_)
  · obtain ⟨se, t, M, tl, B, i, k, rfl, hse, hb, kk⟩ := h; rfl
  · have hu := hu_of hr
    obtain ⟨se, t, M, tl, B, i, k, rfl, hse, hb, kk⟩ := h
    refine ⟨_, (pss_cons (ps_asg (pe_callC (cal_square (K := K) T) (hr.mono (by decide)) (by rfl) (pa_cons (pv 0) (pa_cons (pv 2) (pa_cons (pv 3) pa_nil)))) (pg_tup rfl (pgs_cons (pg_name (i := 4) sc_box_solid.nd rfl (.inl rfl)) (pgs_cons (pg_name (i := 5) sc_box_solid.nd rfl (.inl rfl)) (pgs_cons (pg_name (i := 6) sc_box_solid.nd rfl (.inl rfl)) (pgs_cons (pg_name (i := 7) sc_box_solid.nd rfl (.inl rfl)) pgs_nil))))))
      (pss_cons (ps_if (PW.pt (pw_or (pt_cmpR op_gt1 (pe_ix (x_tup K) (pv 1) pe_int (fun _ _ => rfl)) (pv 6) (nomark _)) (pw_or (pt_cmpR o_lt (pe_ix (x_tup K) (pv 1) pe_int (fun _ _ => rfl)) (pv 4) (nomark _)) (pw_or (pt_cmpR op_gt1 (pe_ix (x_tup K) (pv 1) pe_int (fun _ _ => rfl)) (pv 7) (nomark _)) (pw_or1 (pt_cmpR o_lt (pe_ix (x_tup K) (pv 1) pe_int (fun _ _ => rfl)) (pv 5) (nomark _))))))) (pss_one (ps_ret pe_non)) pss_nil)
      (pss_cons (ps_set (i := 8) sc_box_solid.nd rfl (.inl rfl) (pe_callC (cal_ceiled (K := K) T) (hr.mono (by decide)) (by rfl) (pa_cons (pe_ix (x_tup K) (pv 1) pe_int (fun _ _ => rfl)) (pa_cons (pe_fld (pv 0) rfl) pa_nil))))
      (pss_one (ps_ret (pe_tup (pa_cons (pe_op o_fdiv (pe_ix (x_tup K) (pv 1) pe_int (fun _ _ => rfl)) (pe_fld (pv 0) rfl)) (pa_cons (pv 8) (pa_cons (pe_ifExp (pt_val (pe_ix (x_tup K) (pv 1) pe_int (fun _ _ => rfl))) (pv 8) pe_non) pa_nil))))))))), ?_⟩
    change (_ : TS) _ [some _, some _, some _, some _, none, none, none, none, none] H
    have ⟨⟨dx, h1, h2, sl, e1, e2⟩, mo⟩ := hse
    have ml := mo.level
    unfold BxAt at hb
    unfold FpM.Me.box FpM.boxM at kk
    wtm_at "go"
    refine do_square hse fun r H1 s1 hr1 => ?_
    wtm_at "go"
    · refine kk _ _ (by wtm_at "sm") ?_
      rw [if_pos (by omega)]
      rfl
    · refine kk _ _ (by wtm_at "sm") ?_
      rw [if_pos (by omega)]
      rfl
    · refine kk _ _ (by wtm_at "sm") ?_
      rw [if_pos (by omega)]
      rfl
    · refine kk _ _ (by wtm_at "sm") ?_
      rw [if_pos (by omega)]
      rfl
    · rw [if_neg (by omega)] at kk
      refine do_ceiled (by omega) fun H3 s3 => ?_
      cases hf : B.flat
      · rw [hf] at kk hb
        wtm_at "go"
        exact kk _ _ (by wtm_at "sm") ⟨_, rfl, upd_same⟩
      · rw [hf] at kk hb
        wtm_at "go"
        exact kk _ _ (by wtm_at "sm") ⟨_, rfl, upd_same⟩
theorem do_box_solid {K : PySem.W.Frag} {H : Hp} {Q : VK} {s t : Addr} {M : FpM.Me} {tl : Int} {B : FpM.Bx} {i k : Int} (hs : SeAt K H s M tl) (ht : BxAt H t B) (kk : ∀ v H', Same H H' → SolF H' v (M.box B i k) → Q v H') :
    sp_box_solid K [.ref s, .ref t, .int i, .int k] H Q E0 := ⟨s, t, M, tl, B, i, k, rfl, hs, ht, kk⟩
def higherM (a b : Option Int) : Option Int := match a, b with
  | none, b => b
  | some a, none => some a
  | some a, some b => if b > a then some b else some a
def sp_higher (_ : PySem.W.Frag) : Sp := fun vs H Q _ => ∃ (a b : Option Int), vs = [topV a, topV b] ∧ ∀ H', Same H H' → Q (topV (higherM a b)) H'
abbrev s_higher : Stmt := topS 44
abbrev N_higher : List Str := ["one", "other"]
theorem sc_higher : FnScope N_higher ["one", "other"] (defScope s_higher) := ⟨rfl, rfl, rfl, by decide +kernel, rfl, by decide +kernel, by decide +kernel⟩
theorem bd_higher : BindsOf ["one", "other"] "higher" "higher" s_higher := fun _ _ _ _ _ _ us hl => match us, hl with | [_, _], _ => rfl
theorem cal_higher {P : Program} {w : World} {K : PySem.W.Frag} {mg : Str → Option Value} {base : Heap} (T : Tx K mg) : Cal P w K mg base "higher" 1 ["one", "other"] (sp_higher K) := by
  refine T.higher.cal sc_higher bd_higher (fun vs H Q E h => ?_) (fun f cdv A outer s H vs Q E hr h => ?_)
  · obtain ⟨a, b, rfl, k⟩ := h; rfl
  · have hu := hu_of hr
    obtain ⟨a, b, rfl, k⟩ := h
    refine ⟨_, (pss_cons (ps_if (PW.pt (pw_or (pt_cmpR op_isN1 (pv 0) pe_non (nomark _)) (pw_or1 (PW.pt (pw_and (pt_cmpR op_notN1 (pv 1) pe_non (nomark _)) (pw_and1 (pt_cmpR op_gt1 (pv 1) (pv 0) (nomark _)))))))) (pss_one (ps_ret (pv 1))) pss_nil)
      (pss_one (ps_ret (pv 0)))), ?_⟩
    change (_ : TS) _ [some _, some _] H
    cases a <;> cases b <;> simp only [topV]
    · wtm_at "go"
      exact k _ (Same.refl _)
    · wtm_at "go"
      exact k _ (Same.refl _)
    · wtm_at "go"
      exact k _ (Same.refl _)
    · wtm_at "go"
      · have := k _ (Same.refl _)
        unfold higherM at this
        simp only at this
        rw [if_pos (by assumption)] at this
        exact this
      · have := k _ (Same.refl _)
        unfold higherM at this
        simp only at this
        rw [if_neg (by assumption)] at this
        exact this
theorem do_higher {K : PySem.W.Frag} {H : Hp} {Q : VK} {a b : Option Int} (k : ∀ H', Same H H' → Q (topV (higherM a b)) H') : sp_higher K [topV a, topV b] H Q E0 := ⟨a, b, rfl, k⟩
end
section
/-! ### min and max of a list or of a tuple -/
section
variable {prog : Program} {w : World} {A : Around} {E : Value → Shared → Prop} {s : Shared} {l : Addr} {its : List Value} {ns : List Int} {Q : Value → Shared → Prop}
theorem iter_tupI {A : Around} {Q : Value → Shared → Prop} {vs : Array Value} (hh : A.handled = none) (hl : s.heap.IsTuple l vs)
    (h : ∀ s₂ : Shared, s₂ = { s with heap := s.heap.push { cls := .type "tuple_iterator", data := .fields #[.ref l, .int 0 0] } } →
      (s₂.heap.IsTupleIter s.heap.objs.size l 0 ∧ s₂.heap.IsTuple l vs) → (∀ b ∈ [s.heap.objs.size, l], b < s₂.heap.objs.size) → l ≠ s.heap.objs.size → Q (.ref s.heap.objs.size) s₂) :
    wpAny (model prog w) A (pyIter (.ref l)) Q E s := by
  have hlt : l < s.heap.objs.size := by obtain ⟨_, e, _⟩ := hl; exact Heap.lt_size e
  refine wpAny_pyIter_tuple hl (h _ rfl ⟨⟨_, Heap.get?_push_size _ rfl, rfl, rfl⟩, hl.push _⟩ (fun b hb => ?_) (Nat.ne_of_lt hlt))
  show b < (s.heap.push _).objs.size
  rw [Heap.size_push]
  rcases List.mem_cons.mp hb with rfl | hb
  · exact Nat.lt_succ_self _
  · rcases List.mem_cons.mp hb with rfl | hb
    · exact Nat.lt_succ_of_lt hlt
    · cases hb
theorem old_keptT {h' : Heap} (hk : ∀ b o, b ∉ [s.heap.objs.size] → (s.heap.push { cls := .type "tuple_iterator", data := .fields #[.ref l, .int 0 0] }).get? b = some o → h'.get? b = some o) :
    ∀ b o, s.heap.get? b = some o → h'.get? b = some o := fun b o e => by
  refine hk b o (fun hm => ?_) (Heap.get?_push_of_some _ e)
  rcases List.mem_cons.mp hm with e1 | hm
  · exact absurd (e1 ▸ Heap.lt_size e) (Nat.lt_irrefl _)
  · cases hm
theorem maxT_raw (hh : A.handled = none) (hl : s.heap.IsTuple l its.toArray) (hi : IntsAre its ns) (hne : 0 < ns.length)
    (h : ∀ h' tk M t', (∀ b o, s.heap.get? b = some o → h'.get? b = some o) → M ∈ ns → (∀ a, a ∈ ns → a ≤ M) → Q (.int M t') { s with heap := h', toks := tk }) : wpAny (model prog w) A (call (.builtin "max") [.ref l]) Q E s := by
  obtain ⟨xs, e⟩ := hi.allInts.items
  have hn : numsOf (intItems xs).toList = ns := by rw [← e]; exact hi.numsOf
  rw [nums_intItems] at hn
  subst hn
  rw [e] at hl
  have hsz : 0 < xs.size := by simpa using hne
  refine call_max_walk (iter_tupI (A := A.in1) hh hl fun s₂ e st hfp hlI => ?_)
  subst e
  refine ⟨_, _, _, _, _, _, _, rfl, Walks.tuple (A := A.in1) hh _ l hlI (intItems xs), st, hfp, by simpa [intItems] using hsz, CmpOf.ints_gt (numAt xs) (fun _ _ => intItems_at), fun v h' tk hP hk => ?_⟩
  have hv : (intItems xs)[argBest (fun i j => decide (numAt xs i > numAt xs j)) (xs.size - 1)]? = some v := by simpa [intItems] using hP
  obtain ⟨t, rfl⟩ := intItems_at hv
  obtain ⟨h1, h2⟩ := argBest_gt (numAt xs) (xs.size - 1)
  refine h h' tk _ t (old_keptT hk) ?_ fun a ha => ?_
  · rw [numAt_eq]; exact PySem.getD_mem (by rw [List.length_map, Array.length_toList]; omega)
  · obtain ⟨j, hj, rfl⟩ := mem_getD ha
    rw [List.length_map, Array.length_toList] at hj
    rw [← numAt_eq]; exact h2 j (by omega)
theorem minT_raw (hh : A.handled = none) (hl : s.heap.IsTuple l its.toArray) (hi : IntsAre its ns) (hne : 0 < ns.length)
    (h : ∀ h' tk M t', (∀ b o, s.heap.get? b = some o → h'.get? b = some o) → M ∈ ns → (∀ a, a ∈ ns → M ≤ a) → Q (.int M t') { s with heap := h', toks := tk }) : wpAny (model prog w) A (call (.builtin "min") [.ref l]) Q E s := by
  obtain ⟨xs, e⟩ := hi.allInts.items
  have hn : numsOf (intItems xs).toList = ns := by rw [← e]; exact hi.numsOf
  rw [nums_intItems] at hn
  subst hn
  rw [e] at hl
  have hsz : 0 < xs.size := by simpa using hne
  refine call_min_walk (iter_tupI (A := A.in1) hh hl fun s₂ e st hfp hlI => ?_)
  subst e
  refine ⟨_, _, _, _, _, _, _, rfl, Walks.tuple (A := A.in1) hh _ l hlI (intItems xs), st, hfp, by simpa [intItems] using hsz, CmpOf.ints_lt (numAt xs) (fun _ _ => intItems_at), fun v h' tk hP hk => ?_⟩
  have hv : (intItems xs)[argBest (fun i j => decide (numAt xs i < numAt xs j)) (xs.size - 1)]? = some v := by simpa [intItems] using hP
  obtain ⟨t, rfl⟩ := intItems_at hv
  obtain ⟨h1, h2⟩ := argBest_lt (numAt xs) (xs.size - 1)
  refine h h' tk _ t (old_keptT hk) ?_ fun a ha => ?_
  · rw [numAt_eq]; exact PySem.getD_mem (by rw [List.length_map, Array.length_toList]; omega)
  · obtain ⟨j, hj, rfl⟩ := mem_getD ha
    rw [List.length_map, Array.length_toList] at hj
    rw [← numAt_eq]; exact h2 j (by omega)
end
def rMaxS (K : PySem.W.Frag) : List V → Hp → VK → Prop := fun vs H Q => ∃ (a : Addr) (ns : List Int), vs = [V.ref a] ∧ (SqL K H a (ns.map V.int) ∨ SqT K H a (ns.map V.int)) ∧ 0 < ns.length ∧ ∀ m, m ∈ ns → (∀ y, y ∈ ns → y ≤ m) → Q (.int m) H
def rMinS (K : PySem.W.Frag) : List V → Hp → VK → Prop := fun vs H Q => ∃ (a : Addr) (ns : List Int), vs = [V.ref a] ∧ (SqL K H a (ns.map V.int) ∨ SqT K H a (ns.map V.int)) ∧ 0 < ns.length ∧ ∀ m, m ∈ ns → (∀ y, y ∈ ns → m ≤ y) → Q (.int m) H
theorem IsTup.tuple {h : Heap} {a : Addr} {its : Array Value} (x : IsTup h a its) : h.IsTuple a its := by
  obtain ⟨o, e, c, n, d⟩ := x
  exact ⟨o, e, c, n, d⟩
theorem c_maxS {X : Cx} (hc : X.calm = true) : CallR X (.builtin "max") (rMaxS X.K) := by
  intro pins s σ H vs us Q I r h
  obtain ⟨a, ns, rfl, hs | hs, hne, q⟩ := h
  · obtain ⟨its, rv, hl, _⟩ := I.list hs
    rw [Vals.ref1 r]
    exact max_raw (I.ok.hd hc) hl.isList rv.ints hne fun h' tk m t' hk h1 h2 => ⟨.int _, H, I.kept hk, ⟨_, rfl⟩, q m h1 h2⟩
  · obtain ⟨its, rv, hl, _⟩ := I.tuple hs
    rw [Vals.ref1 r]
    exact maxT_raw (I.ok.hd hc) (IsTup.tuple hl) rv.ints hne fun h' tk m t' hk h1 h2 => ⟨.int _, H, I.kept hk, ⟨_, rfl⟩, q m h1 h2⟩
theorem c_minS {X : Cx} (hc : X.calm = true) : CallR X (.builtin "min") (rMinS X.K) := by
  intro pins s σ H vs us Q I r h
  obtain ⟨a, ns, rfl, hs | hs, hne, q⟩ := h
  · obtain ⟨its, rv, hl, _⟩ := I.list hs
    rw [Vals.ref1 r]
    exact min_raw (I.ok.hd hc) hl.isList rv.ints hne fun h' tk m t' hk h1 h2 => ⟨.int _, H, I.kept hk, ⟨_, rfl⟩, q m h1 h2⟩
  · obtain ⟨its, rv, hl, _⟩ := I.tuple hs
    rw [Vals.ref1 r]
    exact minT_raw (I.ok.hd hc) (IsTup.tuple hl) rv.ints hne fun h' tk m t' hk h1 h2 => ⟨.int _, H, I.kept hk, ⟨_, rfl⟩, q m h1 h2⟩
end
section
def sp_met_range (_ : PySem.W.Frag) : Sp := fun vs H Q _ => ∃ (low high cell many : Int), vs = [.int low, .int high, .int cell, .int many] ∧ (0 < cell ∧ cell < 1000000) ∧ ∀ v H', Same H H' → OptF H' v (FpM.metM low high cell many) → Q v H'
abbrev s_met_range : Stmt := topS 47
abbrev N_met_range : List Str := ["low", "high", "cell", "many", "first", "last"]
theorem sc_met_range : FnScope N_met_range ["low", "high", "cell", "many"] (defScope s_met_range) := ⟨rfl, rfl, rfl, by decide +kernel, rfl, by decide +kernel, by decide +kernel⟩
theorem bd_met_range : BindsOf ["low", "high", "cell", "many"] "met_range" "met_range" s_met_range := fun _ _ _ _ _ _ us hl => match us, hl with | [_, _, _, _], _ => rfl
theorem cal_met_range {P : Program} {w : World} {K : PySem.W.Frag} {mg : Str → Option Value} {base : Heap} (T : Tx K mg) : Cal P w K mg base "met_range" 2 ["low", "high", "cell", "many"] (sp_met_range K) := by
  refine T.met_range.cal sc_met_range bd_met_range (fun vs H Q E h => ?_) (fun f cdv A outer s H vs Q E hr h => ?_)
  · obtain ⟨low, high, cell, many, rfl, hc, k⟩ := h; rfl
  · have hu := hu_of hr
    obtain ⟨low, high, cell, many, rfl, hc, k⟩ := h
    refine ⟨_, (pss_cons (ps_set (i := 4) sc_met_range.nd rfl (.inl rfl) (pe_callB (c_max2 rfl) (by rfl) T.max b_max (pa_cons (pe_op o_sub (pe_callC (cal_ceiled (K := K) T) (hr.mono (by decide)) (by rfl) (pa_cons (pv 0) (pa_cons (pv 2) pa_nil))) pe_int) (pa_cons pe_int pa_nil))))
      (pss_cons (ps_set (i := 5) sc_met_range.nd rfl (.inl rfl) (pe_callB (c_min2 rfl) (by rfl) T.min b_min (pa_cons (pe_op o_fdiv (pv 1) (pv 2)) (pa_cons (pe_op o_sub (pv 3) pe_int) pa_nil))))
      (pss_one (ps_ret (pe_ifExp (pt_cmpR o_le (pv 4) (pv 5) (nomark _)) (pe_tup (pa_cons (pv 4) (pa_cons (pv 5) pa_nil))) pe_non))))), ?_⟩
    change (_ : TS) _ [some _, some _, some _, some _, none, none] H
    wtm_at "go"
    refine do_ceiled (by omega) fun H1 s1 => ?_
    wtm_at "go"
    · refine k _ _ (by wtm_at "sm") ?_
      unfold FpM.metM
      rw [if_pos (show FpM.mx (FpM.ceilM low cell - 1) 0 ≤ FpM.mn (high / cell) (many - 1) by assumption)]
      exact ⟨_, rfl, upd_same⟩
    · refine k _ _ (by wtm_at "sm") ?_
      unfold FpM.metM
      rw [if_neg (show ¬ FpM.mx (FpM.ceilM low cell - 1) 0 ≤ FpM.mn (high / cell) (many - 1) by assumption)]
      rfl
theorem do_met_range {K : PySem.W.Frag} {H : Hp} {Q : VK} {low high cell many : Int} (hc : 0 < cell ∧ cell < 1000000) (k : ∀ v H', Same H H' → OptF H' v (FpM.metM low high cell many) → Q v H') : sp_met_range K [.int low, .int high, .int cell, .int many] H Q E0 := ⟨low, high, cell, many, rfl, hc, k⟩
/-- numbers in a list or a tuple, the least and the greatest -/
structure Nums (H : Hp) (a : Addr) (lo hi : Int) : Prop where
  ex : ∃ ns : List Int, (H a = some (.lst (ns.map V.int)) ∨ H a = some (.tup (ns.map V.int))) ∧ lo ∈ ns ∧ hi ∈ ns ∧ ∀ n ∈ ns, lo ≤ n ∧ n ≤ hi
theorem Nums.same {H H' : Hp} {a : Addr} {lo hi : Int} (h : Nums H a lo hi) (s : Same H H') : Nums H' a lo hi := by
  obtain ⟨ns, e, r⟩ := h.ex
  exact ⟨ns, e.imp (s _ _) (s _ _), r⟩
theorem i_minN {K : PySem.W.Frag} {H : Hp} {Q : VK} {a : Addr} {lo hi : Int} (h : Nums H a lo hi) (q : Q (.int lo) H) : rMinS K [.ref a] H Q := by
  obtain ⟨ns, e, h1, h2, h3⟩ := h.ex
  refine ⟨a, ns, rfl, e.imp SqL.of SqT.of, List.length_pos_of_mem h1, fun m hm hy => ?_⟩
  have : m = lo := by have := hy lo h1; have := h3 m hm; omega
  subst this; exact q
theorem i_maxN {K : PySem.W.Frag} {H : Hp} {Q : VK} {a : Addr} {lo hi : Int} (h : Nums H a lo hi) (q : Q (.int hi) H) : rMaxS K [.ref a] H Q := by
  obtain ⟨ns, e, h1, h2, h3⟩ := h.ex
  refine ⟨a, ns, rfl, e.imp SqL.of SqT.of, List.length_pos_of_mem h1, fun m hm hy => ?_⟩
  have : m = hi := by have := hy hi h2; have := h3 m hm; omega
  subst this; exact q
def RngF (H : Hp) (v : V) : Option (Int × Int × Int × Int) → Prop
  | none => v = .non
  | some r => ∃ a, v = .ref a ∧ T4 H a r.1 r.2.1 r.2.2.1 r.2.2.2
def sp_range_of (K : PySem.W.Frag) : Sp := fun vs H Q _ => ∃ (s x z : Addr) (M : FpM.Me) (tl lx hx lz hz : Int), vs = [.ref s, .ref x, .ref z] ∧ SeAt K H s M tl ∧ Nums H x lx hx ∧ Nums H z lz hz ∧
  ∀ v H', Same H H' → RngF H' v (FpM.rangeM M lx hx lz hz) → Q v H'
local macro_rules | `(tactic| wtm_at "call") => `(tactic| first
  | ((with_reducible show rMinS _ _ _ _); refine i_minN (by first | assumption | exact Nums.same (by assumption) (by wtm_at "sm")) ?_)
  | ((with_reducible show rMaxS _ _ _ _); refine i_maxN (by first | assumption | exact Nums.same (by assumption) (by wtm_at "sm")) ?_)
  | ((with_reducible show sp_met_range _ _ _ _ _); refine do_met_range (by omega) (fun v H' s o => ?_)))
abbrev s_range_of : Stmt := topS 48
abbrev N_range_of : List Str := ["settings", "xs", "zs", "across", "down"]
theorem sc_range_of : FnScope N_range_of ["settings", "xs", "zs"] (defScope s_range_of) := ⟨rfl, rfl, rfl, by decide +kernel, rfl, by decide +kernel, by decide +kernel⟩
theorem bd_range_of : BindsOf ["settings", "xs", "zs"] "range_of" "range_of" s_range_of := fun _ _ _ _ _ _ us hl => match us, hl with | [_, _, _], _ => rfl
theorem cal_range_of {P : Program} {w : World} {K : PySem.W.Frag} {mg : Str → Option Value} {base : Heap} (T : Tx K mg) : Cal P w K mg base "range_of" 3 ["settings", "xs", "zs"] (sp_range_of K) := by
  refine T.range_of.cal sc_range_of bd_range_of (fun vs H Q E h => ?_) (fun f cdv A outer s H vs Q E hr h => ?_)
  · obtain ⟨se, xa, za, M, tl, lx, hx, lz, hz, rfl, hse, nx, nz, k⟩ := h; rfl
  · have hu := hu_of hr
    obtain ⟨se, xa, za, M, tl, lx, hx, lz, hz, rfl, hse, nx, nz, k⟩ := h
    refine ⟨_, (pss_cons (ps_set (i := 3) sc_range_of.nd rfl (.inl rfl) (pe_callC (cal_met_range (K := K) T) (hr.mono (by decide)) (by rfl) (pa_cons (pe_callB (c_minS rfl) (by rfl) T.min b_min (pa_cons (pv 1) pa_nil)) (pa_cons (pe_callB (c_maxS rfl) (by rfl) T.max b_max (pa_cons (pv 1) pa_nil)) (pa_cons (pe_fld (pv 0) rfl) (pa_cons (pe_fld (pv 0) rfl) pa_nil))))))
      (pss_cons (ps_set (i := 4) sc_range_of.nd rfl (.inl rfl) (pe_callC (cal_met_range (K := K) T) (hr.mono (by decide)) (by rfl) (pa_cons (pe_callB (c_minS rfl) (by rfl) T.min b_min (pa_cons (pv 2) pa_nil)) (pa_cons (pe_callB (c_maxS rfl) (by rfl) T.max b_max (pa_cons (pv 2) pa_nil)) (pa_cons (pe_fld (pv 0) rfl) (pa_cons (pe_fld (pv 0) rfl) pa_nil))))))
      (pss_cons (ps_if (PW.pt (pw_or (pt_cmpR op_isN1 (pv 3) pe_non (nomark _)) (pw_or1 (pt_cmpR op_isN1 (pv 4) pe_non (nomark _))))) (pss_one (ps_ret pe_non)) pss_nil)
      (pss_one (ps_ret (pe_tup (pa_cons (pe_ix (x_tup K) (pv 3) pe_int (fun _ _ => rfl)) (pa_cons (pe_ix (x_tup K) (pv 4) pe_int (fun _ _ => rfl)) (pa_cons (pe_ix (x_tup K) (pv 3) pe_int (fun _ _ => rfl)) (pa_cons (pe_ix (x_tup K) (pv 4) pe_int (fun _ _ => rfl)) pa_nil)))))))))), ?_⟩
    change (_ : TS) _ [some _, some _, some _, none, none] H
    have ⟨⟨dx, h1, h2, sl, e1, e2⟩, mo⟩ := hse
    have mc := mo.cell
    wtm_at "go"
    rename_i va H1 s1 oa vd H2 s2 od
    cases ha : FpM.metM lx hx M.cell M.columns with
    | none =>
      rw [ha] at oa
      obtain rfl : va = .non := oa
      wtm_at "go"
      refine k _ _ (by wtm_at "sm") ?_
      unfold FpM.rangeM
      rw [ha]
      rfl
    | some a =>
      rw [ha] at oa
      obtain ⟨pa, rfl, ta⟩ := oa
      cases hd : FpM.metM lz hz M.cell M.rows with
      | none =>
        rw [hd] at od
        obtain rfl : vd = .non := od
        wtm_at "go"
        refine k _ _ (by wtm_at "sm") ?_
        unfold FpM.rangeM
        rw [ha, hd]
        rfl
      | some d =>
        rw [hd] at od
        obtain ⟨pd, rfl, td⟩ := od
        wtm_at "go"
        refine k _ _ (by wtm_at "sm") ?_
        unfold FpM.rangeM
        rw [ha, hd]
        exact ⟨_, rfl, upd_same⟩
theorem do_range_of {K : PySem.W.Frag} {H : Hp} {Q : VK} {s x z : Addr} {M : FpM.Me} {tl lx hx lz hz : Int} (hs : SeAt K H s M tl) (nx : Nums H x lx hx) (nz : Nums H z lz hz)
    (k : ∀ v H', Same H H' → RngF H' v (FpM.rangeM M lx hx lz hz) → Q v H') : sp_range_of K [.ref s, .ref x, .ref z] H Q E0 := ⟨s, x, z, M, tl, lx, hx, lz, hz, rfl, hs, nx, nz, k⟩
theorem nums_two {H : Hp} {a : Addr} {x y : Int} (h : H a = some (.tup [.int x, .int y])) : Nums H a (min x y) (max x y) :=
  ⟨[x, y], .inr h, by simp; omega, by simp; omega, by simp; omega⟩
theorem nums_three {H : Hp} {a : Addr} {ys : List V} {x y z : Int} (h : H a = some (.lst ys)) (e : ys = [.int x, .int y, .int z]) : Nums H a (FpM.min3 x y z) (FpM.max3 x y z) := by
  subst e
  exact ⟨[x, y, z], .inl h, by unfold FpM.min3; simp; omega, by unfold FpM.max3; simp; omega, by unfold FpM.min3 FpM.max3; simp; omega⟩
def sp_cells_of (K : PySem.W.Frag) : Sp := fun vs H Q _ => ∃ (s b : Addr) (M : FpM.Me) (tl : Int) (B : FpM.Bx), vs = [.ref s, .ref b] ∧ SeAt K H s M tl ∧ BxAt H b B ∧ ∀ v H', Same H H' → RngF H' v (M.boxCells B) → Q v H'
abbrev s_cells_of : Stmt := topS 49
abbrev N_cells_of : List Str := ["settings", "box"]
theorem sc_cells_of : FnScope N_cells_of ["settings", "box"] (defScope s_cells_of) := ⟨rfl, rfl, rfl, by decide +kernel, rfl, by decide +kernel, by decide +kernel⟩
theorem bd_cells_of : BindsOf ["settings", "box"] "cells_of" "cells_of" s_cells_of := fun _ _ _ _ _ _ us hl => match us, hl with | [_, _], _ => rfl
theorem cal_cells_of {P : Program} {w : World} {K : PySem.W.Frag} {mg : Str → Option Value} {base : Heap} (T : Tx K mg) : Cal P w K mg base "cells_of" 4 ["settings", "box"] (sp_cells_of K) := by
  refine T.cells_of.cal sc_cells_of bd_cells_of (fun vs H Q E h => ?_) (fun f cdv A outer s H vs Q E hr h => ?_)
  · obtain ⟨se, b, M, tl, B, rfl, hse, hb, k⟩ := h; rfl
  · have hu := hu_of hr
    obtain ⟨se, b, M, tl, B, rfl, hse, hb, k⟩ := h
    refine ⟨_, (pss_one (ps_ret (pe_callC (cal_range_of (K := K) T) (hr.mono (by decide)) (by rfl) (pa_cons (pv 0) (pa_cons (pe_tup (pa_cons (pe_ix (x_tup K) (pv 1) pe_int (fun _ _ => rfl)) (pa_cons (pe_ix (x_tup K) (pv 1) pe_int (fun _ _ => rfl)) pa_nil))) (pa_cons (pe_tup (pa_cons (pe_ix (x_tup K) (pv 1) pe_int (fun _ _ => rfl)) (pa_cons (pe_ix (x_tup K) (pv 1) pe_int (fun _ _ => rfl)) pa_nil))) pa_nil)))))), ?_⟩
    change (_ : TS) _ [some _, some _] H
    unfold BxAt at hb
    wtm_at "go"
    refine do_range_of (hse.same (by wtm_at "sm")) (nums_two (by wtm_at "hp")) (nums_two (by wtm_at "hp")) fun v H' s h => ?_
    exact k _ _ (by wtm_at "sm") h
theorem do_cells_of {K : PySem.W.Frag} {H : Hp} {Q : VK} {s b : Addr} {M : FpM.Me} {tl : Int} {B : FpM.Bx} (hs : SeAt K H s M tl) (hb : BxAt H b B) (k : ∀ v H', Same H H' → RngF H' v (M.boxCells B) → Q v H') : sp_cells_of K [.ref s, .ref b] H Q E0 := ⟨s, b, M, tl, B, rfl, hs, hb, k⟩
def sp_triangle_cells (K : PySem.W.Frag) : Sp := fun vs H Q _ => ∃ (s t : Addr) (M : FpM.Me) (tl : Int) (R : FpM.Tr), vs = [.ref s, .ref t] ∧ SeAt K H s M tl ∧ TriAt H t R ∧ ∀ v H', Same H H' → RngF H' v (M.triCells R) → Q v H'
theorem three_of {zs : List V} {f : Nat → V} (hl : zs.length = 3) (he : ∀ (i : Nat) y, zs[i]? = some y → y = f i) : zs = [f 0, f 1, f 2] := by
  match zs, hl with
  | [a, b, c], _ => rw [he 0 a rfl, he 1 b rfl, he 2 c rfl]
abbrev s_triangle_cells : Stmt := topS 50
abbrev N_triangle_cells : List Str := ["settings", "triangle", "point"]
theorem sc_triangle_cells : FnScope N_triangle_cells ["settings", "triangle"] (defScope s_triangle_cells) := ⟨rfl, rfl, rfl, by decide +kernel, rfl, by decide +kernel, by decide +kernel⟩
theorem bd_triangle_cells : BindsOf ["settings", "triangle"] "triangle_cells" "triangle_cells" s_triangle_cells := fun _ _ _ _ _ _ us hl => match us, hl with | [_, _], _ => rfl
theorem cal_triangle_cells {P : Program} {w : World} {K : PySem.W.Frag} {mg : Str → Option Value} {base : Heap} (T : Tx K mg) : Cal P w K mg base "triangle_cells" 4 ["settings", "triangle"] (sp_triangle_cells K) := by
  refine T.triangle_cells.cal sc_triangle_cells bd_triangle_cells (fun vs H Q E h => ?_) (fun f cdv A outer s H vs Q E hr h => ?_)
  · obtain ⟨se, t, M, tl, R, rfl, hse, htr, k⟩ := h; rfl
  · have hu := hu_of hr
    obtain ⟨se, t, M, tl, R, rfl, hse, htr, k⟩ := h
    refine ⟨_, (pss_one (ps_ret (pe_callC (cal_range_of (K := K) T) (hr.mono (by decide)) (by rfl) (pa_cons (pv 0) (pa_cons (pe_lc (own := [("point", 2)]) rfl sc_triangle_cells.nd (pi_tup (pv 1)) (blkOk_by (own := [("point", 2)]) (N := N_triangle_cells) (sc := defScope (topS 50)) (by decide +kernel)) (fun _ _ _ _ _ => (pg_name (i := 2) sc_triangle_cells.nd rfl (.inl rfl))) (fun _ _ _ _ _ => pts_nil) (fun _ _ _ _ _ => (pe_ix (x_tup K) (pv 2) pe_int (fun _ _ => rfl)))) (pa_cons (pe_lc (own := [("point", 2)]) rfl sc_triangle_cells.nd (pi_tup (pv 1)) (blkOk_by (own := [("point", 2)]) (N := N_triangle_cells) (sc := defScope (topS 50)) (by decide +kernel)) (fun _ _ _ _ _ => (pg_name (i := 2) sc_triangle_cells.nd rfl (.inl rfl))) (fun _ _ _ _ _ => pts_nil) (fun _ _ _ _ _ => (pe_ix (x_tup K) (pv 2) pe_int (fun _ _ => rfl)))) pa_nil)))))), ?_⟩
    change (_ : TS) _ [some _, some _, none] H
    obtain ⟨a, b, c, ht, ha, hb, hc⟩ := id htr
    wtm_at "go"
    intro D hD
    refine lc_mapT ht hD (szt (by simp)) (fun j y _ => y = V.int (if j = 0 then R.a.x else if j = 1 then R.b.x else R.c.x)) (fun _ _ _ _ h _ => h) (fun j x H4 C G hj s4 acc kC => ?_) (fun xs H4 s4 hx hxl he => ?_)
    · change gName 2 _ [some _, some _, none] _ _
      match j, hj with
      | 0, hj =>
        obtain rfl : V.ref a = x := by simpa using hj
        wtm_at "go"
        exact kC _ _ (Same.refl _) rfl
      | 1, hj =>
        obtain rfl : V.ref b = x := by simpa using hj
        wtm_at "go"
        exact kC _ _ (Same.refl _) rfl
      | 2, hj =>
        obtain rfl : V.ref c = x := by simpa using hj
        wtm_at "go"
        exact kC _ _ (Same.refl _) rfl
      | j + 3, hj => simp at hj
    · have e1 := three_of (f := fun j => V.int (if j = 0 then R.a.x else if j = 1 then R.b.x else R.c.x)) hxl he
      wtm_at "go"
      intro D2 hD2
      refine lc_mapT (s4 _ _ ht) hD2 (szt (by simp)) (fun j y _ => y = V.int (if j = 0 then R.a.z else if j = 1 then R.b.z else R.c.z)) (fun _ _ _ _ h _ => h) (fun j x H5 C G hj s5 acc kC => ?_) (fun zs H5 s5 hz hzl he2 => ?_)
      · change gName 2 _ [some _, some _, none] _ _
        match j, hj with
        | 0, hj =>
          obtain rfl : V.ref a = x := by simpa using hj
          wtm_at "go"
          exact kC _ _ (Same.refl _) rfl
        | 1, hj =>
          obtain rfl : V.ref b = x := by simpa using hj
          wtm_at "go"
          exact kC _ _ (Same.refl _) rfl
        | 2, hj =>
          obtain rfl : V.ref c = x := by simpa using hj
          wtm_at "go"
          exact kC _ _ (Same.refl _) rfl
        | j + 3, hj => simp at hj
      · have e2 := three_of (f := fun j => V.int (if j = 0 then R.a.z else if j = 1 then R.b.z else R.c.z)) hzl he2
        wtm_at "go"
        refine do_range_of (hse.same (by wtm_at "sm")) (nums_three (s5 _ _ hx) e1) (nums_three hz e2) fun v H' s h => ?_
        exact k _ _ (by wtm_at "sm") h
theorem do_triangle_cells {K : PySem.W.Frag} {H : Hp} {Q : VK} {s t : Addr} {M : FpM.Me} {tl : Int} {R : FpM.Tr} (hs : SeAt K H s M tl) (ht : TriAt H t R) (k : ∀ v H', Same H H' → RngF H' v (M.triCells R) → Q v H') : sp_triangle_cells K [.ref s, .ref t] H Q E0 := ⟨s, t, M, tl, R, rfl, hs, ht, k⟩
def sp_overlap (K : PySem.W.Frag) : Sp := fun vs H Q _ => ∃ (v : V) (r : Option (Int × Int × Int × Int)) (i0 k0 i1 k1 : Int), vs = [v, .int i0, .int k0, .int i1, .int k1] ∧ RngF H v r ∧ ∀ H', Same H H' → Q (.bl (FpM.overlapM r i0 k0 i1 k1)) H'
abbrev s_overlap : Stmt := topS 51
abbrev N_overlap : List Str := ["one", "i0", "k0", "i1", "k1"]
theorem sc_overlap : FnScope N_overlap ["one", "i0", "k0", "i1", "k1"] (defScope s_overlap) := ⟨rfl, rfl, rfl, by decide +kernel, rfl, by decide +kernel, by decide +kernel⟩
theorem bd_overlap : BindsOf ["one", "i0", "k0", "i1", "k1"] "overlap" "overlap" s_overlap := fun _ _ _ _ _ _ us hl => match us, hl with | [_, _, _, _, _], _ => rfl
theorem cal_overlap {P : Program} {w : World} {K : PySem.W.Frag} {mg : Str → Option Value} {base : Heap} (T : Tx K mg) : Cal P w K mg base "overlap" 1 ["one", "i0", "k0", "i1", "k1"] (sp_overlap K) := by
  refine T.overlap.cal sc_overlap bd_overlap (fun vs H Q E h => ?_) (fun f cdv A outer s H vs Q E hr h => ?_)
  · obtain ⟨v, r, i0, k0, i1, k1, rfl, hr, k⟩ := h; rfl
  · have hu := hu_of hr
    obtain ⟨v, r, i0, k0, i1, k1, rfl, hr, k⟩ := h
    refine ⟨_, (pss_one (ps_ret (pe_and (pe_cmpR op_notN1 (pv 0) pe_non (nomark _)) (pe_and (pe_cmpR o_le (pe_ix (x_tup K) (pv 0) pe_int (fun _ _ => rfl)) (pv 3) (nomark _)) (pe_and (pe_cmpR op_ge1 (pe_ix (x_tup K) (pv 0) pe_int (fun _ _ => rfl)) (pv 1) (nomark _)) (pe_and (pe_cmpR o_le (pe_ix (x_tup K) (pv 0) pe_int (fun _ _ => rfl)) (pv 4) (nomark _)) (pe_one (pe_cmpR op_ge1 (pe_ix (x_tup K) (pv 0) pe_int (fun _ _ => rfl)) (pv 2) (nomark _))))))))), ?_⟩
    change (_ : TS) _ [some _, some _, some _, some _, some _] H
    cases r with
    | none =>
      obtain rfl : v = .non := hr
      wtm_at "go"
      exact k _ (Same.refl _)
    | some r =>
      obtain ⟨a, rfl, ht⟩ := hr
      have hk := k _ (Same.refl _)
      unfold FpM.overlapM at hk
      simp only at hk
      wtm_at "go"
      all_goals first
        | (rw [decide_eq_false (by omega)] at hk; exact hk)
        | (refine cast (congrArg (fun b => Q (V.bl b) H) (decide_eq_decide.mpr ?_)) hk; omega)
theorem do_overlap {K : PySem.W.Frag} {H : Hp} {Q : VK} {v : V} {r : Option (Int × Int × Int × Int)} {i0 k0 i1 k1 : Int} (hr : RngF H v r) (k : ∀ H', Same H H' → Q (.bl (FpM.overlapM r i0 k0 i1 k1)) H') : sp_overlap K [v, .int i0, .int k0, .int i1, .int k1] H Q E0 := ⟨v, r, i0, k0, i1, k1, rfl, hr, k⟩
end
section
/-! ### sorted(xs, key=lambda x: (x[0], x[1])) -/
section
variable {prog : Program} {w : World} {A : Around} {E : Value → Shared → Prop} {s : Shared} {env : Env}
theorem sub_raw {x : Str} {p1 p2 p3 : Pos} {k j : Nat} {t : Addr} {its : Array Value} {m : Str → Option Value} {u : Value} {Q : Value → Shared → Prop} (hk : env.scope.kind = .function) (hl : env.kindOf x = some .local) (hn : s.heap.Ns env.locals m) (hm : m x = some (.ref t))
    (ht : IsTup s.heap t its) (hx : its[j]? = some u) (hj : j < 1000) (hd : (x == ("__debug__" : Str)) = false) (h : Q u { s with toks := s.toks + 1 }) :
    wpAny (model prog w) A (eval (.Subscript (.Name x p1) (.Constant (.int j) k p2) p3) env) Q E s := by
  refine Subscript_ (wpAny_Name (wpAny_loadName_local hk hl hn hm ?_) hd)
  refine wpAny_Constant_int ?_
  have ht' : IsTup ({ s with toks := s.toks + 1 } : Shared).heap t its := ht
  have hlt : j < its.size := (Array.getElem?_eq_some_iff.mp hx).1
  refine subscriptTail_builtinR (x := u) ht'.typeIs slot_tuple_getitem.lookup (getItem_tuple (j := j) (Q := fun r s' => r = u ∧ Q r s') ht' (by omega) (by omega) ?_ hx ⟨rfl, h⟩) rfl
  unfold seqIndex?
  have e1 : ¬ ((j : Int) < 0) := by omega
  simp only [e1, if_false]
  rw [if_pos (by simp; omega)]
  simp
/-- the lambda's scope: its parameter alone -/
structure LamP (scope : Scope) (x : Str) : Prop where
  kind : scope.kind = .function
  co : scope.isCoroutine = false
  gen : scope.isGenerator = false
  names : scope.names = [(x, .local)]
  dbg : (x == ("__debug__" : Str)) = false
theorem lam_key {x q : Str} {params : Arguments} {scope : Scope} {pm ctv : Value} {f c' t : Addr} {p1 p2 p3 p4 p5 p6 p7 : Pos} {k1 k2 k3 : Nat} {its : Array Value} {a b : Int} {ta tb : Tok} (L : LamP scope x) (hr : A.depth < recursionLimit)
    (hf : s.heap.get? f = some (PySem.W.kla_obj "<lambda>" q params (.Tuple [.Subscript (.Name x p1) (.Constant (.int 0) k1 p2) p3, .Subscript (.Name x p4) (.Constant (.int 1) k2 p5) p6] k3 p7) scope [] pm c' ctv))
    (hc : s.heap.CodeRec (.ref c') q) (hbind : ∀ u, bindArgs (PySem.W.kla_fn "<lambda>" q params (.Tuple [.Subscript (.Name x p1) (.Constant (.int 0) k1 p2) p3, .Subscript (.Name x p4) (.Constant (.int 1) k2 p5) p6] k3 p7) scope [] pm (.ref c') ctv) ⟨[u], []⟩ = pure [(x, u)])
    (lim : s.heap.NoLimit) (ht : IsTup s.heap t its) (h0 : its[0]? = some (.int a ta)) (h1 : its[1]? = some (.int b tb)) :
    wpAny (model prog w) A (call (.ref f) [.ref t]) (PySem.W.KeyPure (.tuple [.int a, .int b]) s) (fun _ _ => False) s := by
  refine wpAny_call (PySem.W.kla_callFunE hr hf rfl L.co L.gen rfl hc ?_)
  rw [hbind]
  refine wpAny_pure (wpAny_newFunctionEnv (fun y hy => ?_) (fun y hy => ?_) (fun h₁ hns hsb => ⟨lim.fresh _ hsb, ?_⟩) L.kind)
  · rw [show scope.names = [(x, .local)] from L.names] at hy
    rw [List.mem_singleton.mp hy]
    exact fun z => by cases z
  · rw [List.mem_singleton.mp hy]
    show scope.names.lookup x = some .local
    rw [L.names]
    simp [List.lookup]
  · refine PySem.W.kla_codeExpr (wpAny_Tuple_spliced ?_)
    have kp : ∀ b o, s.heap.get? b = some o → h₁.get? b = some o := fun b o e => hsb.extBut b o (Nat.ne_of_lt (Heap.lt_size e)) (Heap.get?_push_of_some _ e)
    have kl : ∀ (cl : List (Str × Addr)) (L0 g : Addr) (bt : Addr) (qq : Str) (fn : Option Addr) (cd : Value), (newEnv scope L0 g cl qq fn cd none bt).kindOf x = some .local := fun cl L0 g bt qq fn cd => by
      show scope.names.lookup x = some .local
      rw [L.names]
      simp [List.lookup]
    have hm : (fun y => [(x, Value.ref t)].reverse.lookup y) x = some (.ref t) := by simp [List.lookup]
    have hkp : IsTup h₁ t its := ht.keeps kp
    show wpAny _ _ (spliced ((false, eval _ _) :: (false, eval _ _) :: [])) _ _ _
    refine Calls.spliced_cons (sub_raw (j := 0) L.kind (kl _ _ _ _ _ _ _) hns hm hkp h0 (by decide) L.dbg ?_)
    refine Calls.spliced_cons (sub_raw (j := 1) L.kind (kl _ _ _ _ _ _ _) hns hm hkp h1 (by decide) L.dbg ?_)
    refine Calls.spliced_nil ⟨szl (by simp), ?_⟩
    refine ⟨_, _, rfl, fun b o e => Heap.get?_push_of_some _ (kp b o e), ?_⟩
    exact Reads.tuple (Heap.get?_push_size _ rfl) rfl rfl (.cons (.int _ _) (.cons (.int _ _) .nil))
end
def tSortL (K : PySem.W.Frag) (T : List (Addr × Str)) (te : TE) : TE := fun σ H Q => te σ H fun x H1 => LamX.Tabs T H1 ∧ ∀ H2, LamX.ExtN H1 H2 → LamX.Tabs T H2 → ∃ (a : Addr) (ts : List Addr) (k : Addr → Int × Int), x = .ref a ∧ SqL K H2 a (ts.map V.ref) ∧
  (∀ t ∈ ts, ∃ r, H2 t = some (.tup (.int (k t).1 :: .int (k t).2 :: r))) ∧
  ∀ (ts' : List Addr) (p : Addr), ts'.Perm ts → ts'.Pairwise (fun u v => (k u).1 < (k v).1 ∨ ((k u).1 = (k v).1 ∧ (k u).2 ≤ (k v).2)) → H2 p = none → Q (.ref p) (upd H2 p (.lst (ts'.map V.ref)))
theorem vals_refs : ∀ {ts : List Addr} {us : List Value}, Vals (ts.map V.ref) us → us = ts.map Value.ref
  | [], _, .nil => rfl
  | t :: ts, _, .cons r h => by
    obtain rfl := r
    rw [vals_refs h]
    rfl
theorem refs_vals : ∀ (ts : List Addr), Vals (ts.map V.ref) (ts.map Value.ref)
  | [] => .nil
  | _ :: ts => .cons rfl (refs_vals ts)
theorem each_refs : ∀ (ts : List Addr), PySem.W.EachIs (fun v t => v = Value.ref t) (ts.map Value.ref) ts
  | [] => .nil
  | _ :: ts => .cons rfl (each_refs ts)
theorem refs_each : ∀ {out : List Value} {ts : List Addr}, PySem.W.EachIs (fun v t => v = Value.ref t) out ts → out = ts.map Value.ref
  | _, _, .nil => rfl
  | _, _, .cons r h => by
    rw [r, refs_each h]
    rfl
theorem pe_sortlam {X : Cx} {T : List (Addr × Str)} {c P : Addr} {params : Arguments} {x : Str} {scope : Scope} {e : Expr} {te : TE} {p lpos pos kpos p1 p2 p3 p4 p5 p6 p7 : Pos} {k1 k2 k3 : Nat} (hg : Gl X "sorted") (hm : X.mg "sorted" = none) (hr : Room 1 X.A)
    (TB : LamX.TabB X.base X.mg c P) (hcode : X.env.code = .ref c) (hmT : (P, X.env.qual ++ "<lambda>") ∈ T) (hu : ∀ p ∈ T, p.1 = P → p.2 = X.env.qual ++ "<lambda>") (L : LamP scope x) (hdef : defaultsOf params X.env = ([], []))
    (hbind : ∀ (q : Str) (pm cv ctv u : Value), bindArgs (PySem.W.kla_fn "<lambda>" q params (.Tuple [.Subscript (.Name x p1) (.Constant (.int 0) k1 p2) p3, .Subscript (.Name x p4) (.Constant (.int 1) k2 p5) p6] k3 p7) scope [] pm cv ctv) ⟨[u], []⟩ = pure [(x, u)])
    (he : PE X e te) (hs : starEach [e] X.env = (false, eval e X.env) :: starEach [] X.env := by rfl) :
    PE X (.Call (.Name "sorted" p) [e] [⟨some "key", .Lambda params (.Tuple [.Subscript (.Name x p1) (.Constant (.int 0) k1 p2) p3, .Subscript (.Name x p4) (.Constant (.int 1) k2 p5) p6] k3 p7) scope lpos, kpos⟩] pos) (tSortL X.K T te) := by
  refine ⟨fun pins s σ H Q I h => ?_⟩
  refine wpAny_Call_Name_kw (ld_blt I hg hm b_sorted ?_)
  have ha := pa_cons he (pa_nil (X := X)) hs
  refine PyProof.Rows.callWith_kw (thn (ha.run pos pins s σ H (fun vs H1 => match vs with
    | [y] => LamX.Tabs T H1 ∧ ∀ H2, LamX.ExtN H1 H2 → LamX.Tabs T H2 → ∃ (a : Addr) (ts : List Addr) (k : Addr → Int × Int), y = .ref a ∧ SqL X.K H2 a (ts.map V.ref) ∧ (∀ t ∈ ts, ∃ r, H2 t = some (.tup (.int (k t).1 :: .int (k t).2 :: r))) ∧
        ∀ (ts' : List Addr) (p : Addr), ts'.Perm ts → ts'.Pairwise (fun u v => (k u).1 < (k v).1 ∨ ((k u).1 = (k v).1 ∧ (k u).2 ≤ (k v).2)) → H2 p = none → Q (.ref p) (upd H2 p (.lst (ts'.map V.ref)))
    | _ => False) I h) fun us s1 ⟨vs, H1, I1, r1, q1⟩ => ?_) (by rw [hs]; rfl) (by rw [hs]; rfl) rfl rfl
  match vs, r1, q1 with
  | [y], r1, ⟨hT, q1⟩ =>
  show wpAny _ _ (evalAll [do let v ← eval _ X.env; standAt pos; pure v]) _ _ s1
  refine wpAny_evalAll_cons (wpAny_bind (LamX.lam_make2 I1 TB hcode hmT hu hT hdef (fun z hz ez => ?_) fun f c' pm ctv H2 s2 I2 eN hT2 hf hfn hfr hco => ?_))
  · rw [show scope.names = [(x, .local)] from L.names] at hz
    rw [List.mem_singleton.mp hz] at ez
    cases ez
  · refine wpAny_bind (wpAny_standAt (wpAny_pure (wpAny_evalAll_nil ?_)))
    obtain ⟨a, ts, k, rfl, hq, hk, fin⟩ := q1 H2 eN hT2
    rw [Vals.ref1 r1]
    show wpAny _ _ (call (.builtin "sorted") [.ref a] [(Str.ofString "key", .ref f)]) _ _ s2
    obtain ⟨its, rv, hl, hz⟩ := I2.list hq
    rw [vals_refs rv] at hl
    obtain ⟨⟨oc, cvs, ct, hoc, hdc, hvc⟩, _, _⟩ := I2.hok c' _ hco
    have ecl : cloFrom X.env.cells scope.names [] = [] := by rw [L.names]; rfl
    rw [ecl] at hf
    have lz : ts.length ≤ sizeLine := by simpa using hz
    refine PySem.W.sorted_key_data (vs := ts.map Value.ref) (bs := ts) (R := fun v t => v = Value.ref t) (b := false) (fun t => .tuple [.int (k t).1, .int (k t).2]) hl.isList (each_refs ts) (.of fun b b' => by rfl) (.tuples fun b => ⟨_, _, rfl⟩) lz (fun t _ => ?_)
      (PyProof.Rows.ksk_s1 _ _) (fun _ => PyProof.Rows.ksk_l1 _ _) (fun _ => PyProof.Rows.ksk_t1 _ _) (fun v t hv ht h tk kp => ?_) (fun out c h' tk kp hn ho hlen hout => ?_)
    · have := hr.un
      show X.A.units + 2 + PyData.depth (.tuple [.int (k t).1, .int (k t).2]) < cLine
      have e1 : PyData.depth (.tuple [.int (k t).1, .int (k t).2]) = 1 := rfl
      omega
    · obtain rfl := hv
      obtain ⟨r, hx⟩ := hk t ht
      obtain ⟨its, rvt, hti, _⟩ := I2.tuple (SqT.of hx)
      cases rvt with
      | cons r0 rvt =>
      cases rvt with
      | cons r1' rvt =>
      obtain ⟨t0, rfl⟩ := r0
      obtain ⟨t1, rfl⟩ := r1'
      refine lam_key L ?_ (kp _ _ hf) ⟨c', oc, cvs, ct, rfl, kp _ _ hoc, hdc, hvc⟩ (hbind _ _ _ _) (I2.nolimit.keeps kp) (IsTup.keeps hti kp) (its := _) rfl rfl
      have := hr.dp
      show X.A.depth < recursionLimit
      omega
    · rw [refs_each hout] at ho
      refine ⟨.ref _, upd H2 (s2.heap.objs.size + 1) (.lst ((ts.mergeSort (PySem.W.dataLe false fun t => .tuple [.int (k t).1, .int (k t).2])).map V.ref)), I2.laid (t' := tk) kp (Nat.le_succ _) ⟨by simpa using lz, _, _, refs_vals _, ho⟩, rfl, fin _ _ (List.mergeSort_perm _ _) ?_ (I2.hok.fresh (Nat.le_succ _))⟩
      rw [PySem.W.dataLe_ii]
      refine List.Pairwise.imp (fun {u v} h => of_decide_eq_true h) (List.pairwise_mergeSort (fun u v z h1 h2 => ?_) (fun u v => ?_) ts)
      · have h1 := of_decide_eq_true h1
        have h2 := of_decide_eq_true h2
        exact decide_eq_true (by omega)
      · simp only [Bool.or_eq_true, decide_eq_true_eq]
        omega
end
section
theorem higher_eq (a b : Option Int) : higherM a b = FpM.higherM a b := by cases a <;> cases b <;> rfl
/-- what is known of merged's own code object -/
structure Tz (K : PySem.W.Frag) (mg : Str → Option Value) (base : Heap) : Prop where
  fn : ∃ fd, FunD K "merged" "merged" (defArgs (topS 45)) (defBody (topS 45)) (defScope (topS 45)) [] [] (He.ga K "merged") fd ∧ mg "merged" = some (.ref (He.ga K "merged"))
  tab : LamX.TabB base mg (He.cT K ("merged", none)).1 (He.cT K ("merged", none)).2
abbrev qM : Str := (("merged" : Str) ++ ".<locals>.") ++ "<lambda>"
abbrev TbK (K : PySem.W.Frag) : List (Addr × Str) := [((He.cT K ("merged", none)).2, qM)]
abbrev Tb (K : PySem.W.Frag) (H : Hp) : Prop := LamX.Tabs (TbK K) H
theorem ExtN.of {H H' : Hp} (s : Same H H') : LamX.ExtN H H' := fun b o h _ => s b o h
theorem Tb.same {K : PySem.W.Frag} {H H' : Hp} (t : Tb K H) (s : Same H H') : Tb K H' := LamX.Tabs.ext t s
theorem Tk.ofN {H H' : Hp} (s : LamX.ExtN H H') : Tk H H' := fun a xs h => s a _ h (fun ps z => by cases z)
theorem SeAt.ext {K : PySem.W.Frag} {H H' : Hp} {a : Addr} {M : FpM.Me} {tl : Int} (h : SeAt K H a M tl) (s : LamX.ExtN H H') : SeAt K H' a M tl := by
  obtain ⟨dx, h1, h2, sl, e1, e2⟩ := h.ex
  exact ⟨⟨dx, h1, h2, sl, s _ _ e1 (fun ps z => by cases z), s _ _ e2 (fun ps z => by cases z)⟩, h.ok⟩
theorem ext_new {H : Hp} {p : Addr} {q : HO} (n : H p = none) : LamX.ExtN H (upd H p q) := ExtN.of (same_new n)
/-- the solid at t -/
def solOf (H : Hp) (t : Addr) : FpM.Sol := match H t with
  | some (.tup [.int a, .int b, .int c]) => (a, b, some c)
  | some (.tup [.int a, .int b, .non]) => (a, b, none)
  | _ => (0, 0, none)
def solV (s : FpM.Sol) : HO := .tup [.int s.1, .int s.2.1, topV s.2.2]
theorem solOf_eq {H : Hp} {t : Addr} {s : FpM.Sol} (h : H t = some (solV s)) : solOf H t = s := by
  obtain ⟨a, b, c⟩ := s
  unfold solOf
  rw [h]
  cases c <;> rfl
theorem sols_refs {H : Hp} {ys : List V} {ins : List FpM.Sol} (h : A2 (SolAt H) ys ins) : ∃ ts : List Addr, ys = ts.map V.ref ∧ ins = ts.map (solOf H) ∧ ∀ t ∈ ts, H t = some (solV (solOf H t)) := by
  induction h with
  | nil => exact ⟨[], rfl, rfl, fun _ h => absurd h (by simp)⟩
  | cons r _ ih =>
    obtain ⟨a, rfl, e⟩ := r
    obtain ⟨ts, h1, h2, h3⟩ := ih
    have q := solOf_eq e
    refine ⟨a :: ts, by rw [h1]; rfl, by rw [h2, ← q]; rfl, fun t ht => ?_⟩
    rcases List.mem_cons.mp ht with rfl | ht
    · rw [q]; exact e
    · exact h3 t ht
def sp_merged (K : PySem.W.Frag) : Sp := fun vs H Q _ => ∃ (a : Addr) (ys : List V) (ins : List FpM.Sol), vs = [.ref a] ∧ Tb K H ∧ H a = some (.lst ys) ∧ A2 (SolAt H) ys ins ∧ ys.length ≤ 1000 ∧ (∀ s ∈ ins, ∀ tp, s.2.2 = some tp → tp ≤ s.2.1) ∧
  ∀ l zs outs H', LamX.ExtN H H' → Tb K H' → H' l = some (.lst zs) → A2 (SolAt H') zs outs → FpM.Mg ins outs → Q (.ref l) H'
theorem i_sortL {K : PySem.W.Frag} {T : List (Addr × Str)} {σ : L2.St} {H : Hp} {Q : VK} {te : TE} (h : te σ H fun x H1 => LamX.Tabs T H1 ∧ ∀ H2, LamX.ExtN H1 H2 → LamX.Tabs T H2 → ∃ (a : Addr) (ts : List Addr) (k : Addr → Int × Int), x = .ref a ∧ SqL K H2 a (ts.map V.ref) ∧
  (∀ t ∈ ts, ∃ r, H2 t = some (.tup (.int (k t).1 :: .int (k t).2 :: r))) ∧
  ∀ (ts' : List Addr) (p : Addr), ts'.Perm ts → ts'.Pairwise (fun u v => (k u).1 < (k v).1 ∨ ((k u).1 = (k v).1 ∧ (k u).2 ≤ (k v).2)) → H2 p = none → Q (.ref p) (upd H2 p (.lst (ts'.map V.ref)))) : tSortL K T te σ H Q := h
theorem i_lastL {K : PySem.W.Frag} {H : Hp} {Q : VK} {p : Addr} {xs : List V} {v : V} (s : H p = some (.lst (xs ++ [v]))) (h : Q v H) : rIxL K (.ref p) (.int (-1)) H Q := ⟨p, _, _, v, rfl, rfl, SqL.of s, atI_last _ _, h⟩
theorem i_pop {H : Hp} {Q : VK} {p : Addr} {xs : List V} {v : V} (s : H p = some (.lst (xs ++ [v]))) (h : Q v (upd H p (.lst xs))) : rPop (.ref p) [] H Q :=
  ⟨p, _, v, rfl, rfl, s, by simp, by simpa using h⟩
theorem i_bm0 {K : PySem.W.Frag} {σ : L2.St} {H : Hp} {Q : VK} {T : String} {r : V → List V → Hp → VK → Prop} {to : TE} (h : to σ H fun x H1 => tyV K T x H1 ∧ r x [] H1 Q) : tBM0 K T r to σ H Q := h
theorem take_snoc {α : Type} {l : List α} {i : Nat} {x : α} (h : l[i]? = some x) : l.take (i + 1) = l.take i ++ [x] := by rw [List.take_add_one, h]; rfl
theorem ext_mut {H H' : Hp} {p : Addr} {q : HO} (n : H p = none) (h : LamX.ExtN H H') : LamX.ExtN H (upd H' p q) := fun b o e z => by
  rw [upd_ne (ne_of_none e n)]; exact h b o e z
theorem Tb.lst {K : PySem.W.Frag} {H : Hp} {p : Addr} {xs : List V} {o : HO} (t : Tb K H) (h : H p = some (.lst xs)) : Tb K (upd H p o) := fun q hq => by
  obtain ⟨ps, h1, h2, h3⟩ := t q hq
  refine ⟨ps, by rw [upd_ne (ne_of h1 h (by intro z; cases z))]; exact h1, h2, fun pos cv hc => ?_⟩
  obtain ⟨c, e1, e2⟩ := h3 pos cv hc
  refine ⟨c, e1, ?_⟩
  rw [upd_ne (ne_of e2 h (by unfold LamX.CodeO; intro z; cases z))]
  exact e2
theorem Tb.ins {K : PySem.W.Frag} {H : Hp} {p : Addr} {C dx : Addr} {fs : List (Str × V)} {o : HO} (t : Tb K H) (h : H p = some (.ins C dx fs)) : Tb K (upd H p o) := fun q hq => by
  obtain ⟨ps, h1, h2, h3⟩ := t q hq
  refine ⟨ps, by rw [upd_ne (ne_of h1 h (by intro z; cases z))]; exact h1, h2, fun pos cv hc => ?_⟩
  obtain ⟨c, e1, e2⟩ := h3 pos cv hc
  refine ⟨c, e1, ?_⟩
  rw [upd_ne (ne_of e2 h (by unfold LamX.CodeO; intro z; cases z))]
  exact e2
theorem a2_unsnoc {α β : Type} {R : α → β → Prop} : ∀ {m : List β} {b : β} {xs : List α}, A2 R xs (m ++ [b]) → ∃ ys v, xs = ys ++ [v] ∧ A2 R ys m ∧ R v b
  | [], b, xs, h => by
    cases h with
    | cons r h => cases h; exact ⟨[], _, rfl, .nil, r⟩
  | c :: m, b, xs, h => by
    cases h with
    | cons r h =>
      obtain ⟨ys, v, rfl, q, z⟩ := a2_unsnoc h
      exact ⟨_ :: ys, v, rfl, .cons r q, z⟩
end
local macro_rules | `(tactic| wtm_at "hp") => `(tactic| first
  | (refine (by assumption : LamX.ExtN _ _) _ _ ?_ (by intro ps z; cases z); wtm_at "hp"))
local macro_rules | `(tactic| wtm_at "tt") => `(tactic| first
  | exact Tk.ofN (by assumption)
  | (refine Tk.trans ?_ (Tk.ofN (by assumption)); wtm_at "tt"))
local macro_rules | `(tactic| wtm_at "xt") => `(tactic| first
  | assumption
  | exact LamX.ExtN.refl _
  | exact ExtN.of (by assumption)
  | exact ext_new (by assumption)
  | (refine ext_mut (by assumption) ?_; wtm_at "xt")
  | (refine LamX.ExtN.trans ?_ (ext_new (by assumption)); wtm_at "xt")
  | (refine LamX.ExtN.trans ?_ (ExtN.of (by assumption : Same _ _)); wtm_at "xt")
  | (refine LamX.ExtN.trans ?_ (by assumption : LamX.ExtN _ _); wtm_at "xt"))
local macro_rules | `(tactic| wtm_at "tb") => `(tactic| first
  | assumption
  | (refine Tb.same ?_ (by assumption : Same _ _); wtm_at "tb")
  | (refine Tb.same ?_ (same_new (by assumption)); wtm_at "tb")
  | (refine Tb.lst ?_ (by wtm_at "hl"); wtm_at "tb"))
local macro_rules | `(tactic| wtm_at "go1") => `(tactic| first
  | with_reducible refine i_bm0 ?_
  | ((with_reducible show rAppend (V.ref _) _ _ _); refine i_append (by wtm_at "hp") (szt (by omega)) ?_))
section
abbrev s_merged : Stmt := topS 45
abbrev N_merged : List Str := ["solids", "found", "lo", "hi", "top", "last"]
theorem sc_merged : FnScope N_merged ["solids"] (defScope s_merged) := ⟨rfl, rfl, rfl, by decide +kernel, rfl, by decide +kernel, by decide +kernel⟩
theorem bd_merged : BindsOf ["solids"] "merged" "merged" s_merged := fun _ _ _ _ _ _ us hl => match us, hl with | [_], _ => rfl

theorem cal_merged {P : Program} {w : World} {K : PySem.W.Frag} {mg : Str → Option Value} {base : Heap} (T : Tx K mg) (Z : Tz K mg base) : Cal P w K mg base "merged" 3 ["solids"] (sp_merged K) := by
  obtain ⟨fd, F, hm⟩ := Z.fn
  refine ⟨He.ga K "merged", fd, ?_, hm, F.kp, F.bindsN bd_merged⟩
  have TB := Z.tab
  obtain ⟨oc, od, dV, kV, doc, pm, an, cdv, ct, osl, rfl, lk, hcd, _, _⟩ := F.ex
  obtain ⟨c, rfl⟩ := He.codeIn_ref hcd
  have ec : (He.cT K ("merged", none)).1 = c := He.codeOf_eq (p := ("merged", none)) lk rfl
  rw [ec] at TB
  refine fn_of lk hcd sc_merged (fun vs H Q E h => ?_) fun A outer s H vs Q E hr h => ?_
  · obtain ⟨a, ys, ins, rfl, _⟩ := h; rfl
  · have hu := hu_of hr
    suffices hh : ∃ t, PSs (cxOf CX0 P w K mg base N_merged "merged" (defScope s_merged) (He.ga K "merged") (.ref c) A outer s H E).nox (defBody s_merged) t ∧ t { nx := fun _ H' => Q .non H', rt := Q } (start N_merged vs) H by
      obtain ⟨t, ht, q⟩ := hh
      exact ⟨t, ht.nox, q⟩
    obtain ⟨a, ys, ins, rfl, tb, ha, a2, hz, tops, k⟩ := h
    refine ⟨_, (pss_cons (ps_set (i := 1) sc_merged.nd rfl (.inl rfl) (pe_lst pa_nil))
      (pss_cons (ps_for PassesOwn.never rfl (pi_list (pe_sortlam (T := TbK K) (x := "solid") rfl T.sorted (hr.mono (by decide)) TB rfl List.mem_cons_self (fun p hp _ => by rw [List.mem_singleton.mp hp]; rfl) ⟨rfl, rfl, rfl, rfl, by decide⟩ rfl (fun _ _ _ _ _ => rfl) (pv 0))) (pg_tup rfl (pgs_cons (pg_name (i := 2) sc_merged.nd rfl (.inl rfl)) (pgs_cons (pg_name (i := 3) sc_merged.nd rfl (.inl rfl)) (pgs_cons (pg_name (i := 4) sc_merged.nd rfl (.inl rfl)) pgs_nil)))) (pss_one (ps_if (PW.pt (pw_and (pt_tr (pv 1)) (pw_and1 (pt_cmpR o_le (pv 2) (pe_ix (x_tup K) (pe_ix (x_list K) (pv 1) (pe_un u_neg pe_int) (fun _ _ => rfl)) pe_int (fun _ _ => rfl)) (nomark _))))) (pss_cons (ps_set (i := 5) sc_merged.nd rfl (.inl rfl) (pe_bm0 PySem.F.plainAttrs_list PySem.F.slot_list_pop PySem.F.type_list_pop mt_pop (pv 1)))
      (pss_one (ps_expr (pe_bm PySem.F.plainAttrs_list PySem.F.slot_list_append PySem.F.type_list_append mt_append (pv 1) (pa_cons (pe_tup (pa_cons (pe_ix (x_tup K) (pv 5) pe_int (fun _ _ => rfl)) (pa_cons (pe_callB (c_max2 rfl) (by rfl) T.max b_max (pa_cons (pe_ix (x_tup K) (pv 5) pe_int (fun _ _ => rfl)) (pa_cons (pv 3) pa_nil))) (pa_cons (pe_callC (cal_higher (K := K) T) (hr.mono (by decide)) (by rfl) (pa_cons (pe_ix (x_tup K) (pv 5) pe_int (fun _ _ => rfl)) (pa_cons (pv 4) pa_nil))) pa_nil)))) pa_nil))))) (pss_one (ps_expr (pe_bm PySem.F.plainAttrs_list PySem.F.slot_list_append PySem.F.type_list_append mt_append (pv 1) (pa_cons (pe_tup (pa_cons (pv 2) (pa_cons (pv 3) (pa_cons (pv 4) pa_nil)))) pa_nil)))))))
      (pss_one (ps_ret (pv 1))))), ?_⟩
    change (_ : TS) _ [some _, none, none, none, none, none] H
    obtain ⟨ts, rfl, rfl, hts⟩ := sols_refs a2
    wtm_at "go"
    rename_i F hF
    refine i_sortL ?_
    wtm_at "go"
    refine ⟨by wtm_at "tb", fun H2 e2 tb2 => ?_⟩
    refine ⟨a, ts, fun t => ((solOf H t).1, (solOf H t).2.1), rfl, SqL.of (by wtm_at "hp"), fun t ht => ⟨[topV (solOf H t).2.2], by have := hts t ht; unfold solV at this; wtm_at "hp"⟩, fun ts' p perm pw hp => ?_⟩
    have x2 : LamX.ExtN H H2 := by wtm_at "xt"
    have hF2 : H2 F = some (.lst []) := e2 _ _ upd_same (by intro ps z; cases z)
    have nF : F ≠ p := ne_of_none hF2 hp
    have hpl : p ≠ F := fun z => nF z.symm
    have lts : ts'.length ≤ 1000 := by rw [perm.length_eq]; simpa using hz
    wtm_at "go"
    refine for_list (K := K) (a := p) (xs := ts'.map V.ref) (fun i σ H' => (∃ y2 y3 y4 y5, σ = [some (.ref a), some (.ref F), y2, y3, y4, y5]) ∧ LamX.ExtN H H' ∧ Tb K H' ∧ H' p = some (.lst (ts'.map V.ref)) ∧ ∃ xs acc, H' F = some (.lst xs) ∧ A2 (SolAt H') xs acc.reverse ∧ FpM.MOk ((ts'.take i).map (solOf H)) acc)
      ⟨⟨_, _, _, _, rfl⟩, by wtm_at "xt", by wtm_at "tb", upd_same, [], [], by wtm_at "hp", .nil, .nil⟩ (fun i σ H' _ h' => SqL.of h'.2.2.2.1) (fun i x σ H3 hx h3 => ?_) (fun σ H3 h3 => ?_)
    · obtain ⟨⟨y2, y3, y4, y5, rfl⟩, x3, tb3, hp3, xs, acc, hF3, a3, mk⟩ := h3
      obtain ⟨t, hxt, rfl⟩ : ∃ t, ts'[i]? = some t ∧ V.ref t = x := by simpa using hx
      have tin : t ∈ ts := perm.mem_iff.mp (List.mem_of_getElem? hxt)
      have lz : acc.length ≤ 1000 := by have := mk.len; have : ((ts'.take i).map (solOf H)).length ≤ ts'.length := by simp; omega
                                        omega
      have lx : xs.length = acc.length := by rw [a3.length]; simp
      have ht3 : H3 t = some (.tup [.int (solOf H t).1, .int (solOf H t).2.1, topV (solOf H t).2.2]) := x3 _ _ (hts t tin) (by intro ps z; cases z)
      have mk2 := mk.step (s := solOf H t) (fun u hu' => by
        obtain ⟨u', hu1, rfl⟩ := List.mem_map.mp hu'
        obtain ⟨j, hj, ej⟩ := List.mem_iff_getElem.mp hu1
        have hj' : j < i ∧ j < ts'.length := by rw [List.length_take] at hj; omega
        have hi := (List.getElem?_eq_some_iff.mp hxt).1
        have := List.pairwise_iff_getElem.mp pw j i hj'.2 hi hj'.1
        rw [List.getElem_take] at ej
        rw [ej, (List.getElem?_eq_some_iff.mp hxt).2] at this
        simp only at this
        omega) (tops _ (List.mem_map.mpr ⟨t, tin, rfl⟩))
      rw [show (ts'.take i).map (solOf H) ++ [solOf H t] = (ts'.take (i + 1)).map (solOf H) by rw [take_snoc hxt]; simp] at mk2
      generalize hs : solOf H t = s at ht3 mk2
      obtain ⟨lo, hi, top⟩ := s
      simp only at ht3
      wtm_at "go"
      refine i_truE ?_
      wtm_at "go"
      refine ⟨_, .inl ⟨_, SqL.of hF3, rfl⟩, ?_⟩
      cases acc with
      | nil =>
        cases a3.nil_r
        refine i_bf ?_
        wtm_at "go"
        refine ⟨⟨_, _, _, _, rfl⟩, by wtm_at "xt", by wtm_at "tb", by rw [upd_ne hpl]; wtm_at "hp", [_], [(lo, hi, top)], upd_same, .cons ⟨_, rfl, by wtm_at "hp"⟩ .nil, mk2⟩
      | cons l r =>
        obtain ⟨l1, l2, l3⟩ := l
        rw [List.reverse_cons] at a3
        obtain ⟨xs0, v, rfl, a30, ⟨q, rfl, hq⟩⟩ := a2_unsnoc a3
        simp only at hq
        rw [show (!(xs0 ++ [V.ref q]).isEmpty) = true by simp]
        have lz1 : (xs0 ++ [V.ref q]).length ≤ 1000 := by omega
        have lz0 : xs0.length ≤ 1000 := by simp at lz1; omega
        refine i_bt ?_
        wtm_at "go"
        refine i_lastL hF3 ?_
        wtm_at "go"
        · refine i_pop hF3 ?_
          have zz : upd H3 F (HO.lst xs0) q = some (.tup [.int l1, .int l2, topV l3]) := upd_tup hF3 hq
          wtm_at "go"
          refine do_higher fun H5 s5 => ?_
          have hF5 : H5 F = some (.lst xs0) := s5 _ _ upd_same
          have hp5 : H5 p = some (.lst (ts'.map V.ref)) := s5 _ _ (by rw [upd_ne hpl]; exact hp3)
          wtm_at "go"
          rename_i g hg
          have hF6 := upd_new (q := HO.tup [V.int l1, V.int (if hi > l2 then hi else l2), topV (higherM l3 top)]) hg hF5
          have hle : lo ≤ l2 := by assumption
          have e1 : FpM.stepM ((l1, l2, l3) :: r) (lo, hi, top) = FpM.joinM (l1, l2, l3) (lo, hi, top) :: r := by
            show (if lo ≤ l2 then _ else _) = _
            rw [if_pos hle]
          rw [e1] at mk2
          refine ⟨⟨_, _, _, _, rfl⟩, by wtm_at "xt", by wtm_at "tb", by rw [upd_ne hpl, upd_ne (ne_of_none hp5 hg)]; exact hp5, _, _, upd_same, ?_, mk2⟩
          rw [List.reverse_cons]
          refine (a30.mono fun v o h => h.tt (by wtm_at "tt")).snoc ⟨g, rfl, ?_⟩
          rw [upd_ne (ne_of_none hF5 hg).symm, upd_same, higher_eq]
          rfl
        · wtm_at "go"
          rename_i g hg
          have hle : ¬ lo ≤ l2 := by assumption
          have e1 : FpM.stepM ((l1, l2, l3) :: r) (lo, hi, top) = (lo, hi, top) :: (l1, l2, l3) :: r := by
            show (if lo ≤ l2 then _ else _) = _
            rw [if_neg hle]
          rw [e1] at mk2
          refine ⟨⟨_, _, _, _, rfl⟩, by wtm_at "xt", by wtm_at "tb", by rw [upd_ne hpl, upd_ne (ne_of_none hp3 hg)]; exact hp3, _, _, upd_same, ?_, mk2⟩
          rw [List.reverse_cons, List.reverse_cons]
          refine ((a30.mono fun v o h => h.tt (by wtm_at "tt")).snoc ⟨q, rfl, by wtm_at "hp"⟩).snoc ⟨g, rfl, ?_⟩
          rw [upd_ne (ne_of_none hF3 hg).symm, upd_same]
    · obtain ⟨⟨y2, y3, y4, y5, rfl⟩, x3, tb3, hp3, xs, acc, hF3, a3, mk⟩ := h3
      wtm_at "go"
      refine k _ _ _ _ x3 tb3 hF3 a3 (mk.mg ?_)
      rw [List.take_of_length_le (by simp)]
      exact perm.map _
theorem do_merged {K : PySem.W.Frag} {H : Hp} {Q : VK} {a : Addr} {ys : List V} {ins : List FpM.Sol} (tb : Tb K H) (ha : H a = some (.lst ys)) (a2 : A2 (SolAt H) ys ins) (hz : ys.length ≤ 1000) (tops : ∀ s ∈ ins, ∀ tp, s.2.2 = some tp → tp ≤ s.2.1)
    (k : ∀ l zs outs H', LamX.ExtN H H' → Tb K H' → H' l = some (.lst zs) → A2 (SolAt H') zs outs → FpM.Mg ins outs → Q (.ref l) H') : sp_merged K [.ref a] H Q E0 := ⟨a, ys, ins, rfl, tb, ha, a2, hz, tops, k⟩
end
section
theorem i_cat {H : Hp} {Q : VK} {l b : Addr} {xs zs : List V} (h1 : H l = some (.lst xs)) (h2 : H b = some (.lst zs)) (hz : xs.length + zs.length ≤ sizeLine) (h : ∀ p, H p = none → Q (.ref p) (upd H p (.lst (xs ++ zs)))) : rCat (.ref l) (.ref b) H Q := ⟨l, b, xs, zs, rfl, rfl, h1, h2, hz, h⟩
/-- besides, not at D -/
def SolN (D : Addr) (H : Hp) (v : V) : Option FpM.Sol → Prop
  | none => v = .non
  | some s => ∃ a, v = .ref a ∧ a ≠ D ∧ H a = some (solV s)
theorem SolN.of {D : Addr} {H : Hp} {v : V} {o : Option FpM.Sol} {xs : List V} (hD : H D = some (.lst xs)) (h : SolF H v o) : SolN D H v o := by
  cases o with
  | none => exact h
  | some f =>
    obtain ⟨a, e, h⟩ := h
    exact ⟨a, e, ne_of h hD (by intro z; cases z), h⟩
theorem SolN.f {D : Addr} {H : Hp} {v : V} {o : Option FpM.Sol} (h : SolN D H v o) : SolF H v o := by
  cases o with
  | none => exact h
  | some f =>
    obtain ⟨a, e, _, h⟩ := h
    exact ⟨a, e, h⟩
theorem SolN.bt {D : Addr} {H H' : Hp} {v : V} {o : Option FpM.Sol} (h : SolN D H v o) (b : Bt D H H') : SolN D H' v o := by
  cases o with
  | none => exact h
  | some f =>
    obtain ⟨a, e, n, h⟩ := h
    exact ⟨a, e, n, b _ _ n h⟩
theorem filt_sol {H : Hp} {ys : List V} {os : List (Option FpM.Sol)} (h : A2 (SolF H) ys os) : A2 (SolAt H) (pickB ys (os.map fun o => o.isSome)) (os.filterMap id) := by
  induction h with
  | nil => exact .nil
  | @cons y o ys os r _ ih =>
    cases o with
    | none => simpa [pickB] using ih
    | some f => simp only [List.map_cons, pickB, Option.isSome_some, if_true, List.filterMap_cons, id]; exact .cons r ih
def TriV (H : Hp) (v : V) (R : FpM.Tr) : Prop := ∃ t, v = .ref t ∧ TriAt H t R
theorem TriV.tt {H H' : Hp} {v : V} {R : FpM.Tr} (h : TriV H v R) (t : Tk H H') : TriV H' v R := by
  obtain ⟨a, rfl, e⟩ := h
  exact ⟨a, rfl, e.tt t⟩
def BxV (H : Hp) (v : V) (B : FpM.Bx) : Prop := ∃ t, v = .ref t ∧ BxAt H t B
theorem BxV.tt {H H' : Hp} {v : V} {R : FpM.Bx} (h : BxV H v R) (t : Tk H H') : BxV H' v R := by
  obtain ⟨a, rfl, e⟩ := h
  exact ⟨a, rfl, t _ _ e⟩
def sp_column (K : PySem.W.Frag) : Sp := fun vs H Q _ => ∃ (s so bo : Addr) (M : FpM.Me) (tl : Int) (ys zs : List V) (rs : List FpM.Tr) (bs : List FpM.Bx) (i k : Int), vs = [.ref s, .ref so, .ref bo, .int i, .int k] ∧ SeAt K H s M tl ∧ Tb K H ∧ H so = some (.lst ys) ∧ A2 (TriV H) ys rs ∧ H bo = some (.lst zs) ∧ A2 (BxV H) zs bs ∧
  (rs.length ≤ 100 ∧ bs.length ≤ 100) ∧ (∀ R ∈ rs, TrSm R) ∧ (0 ≤ i ∧ i < 10 ∧ 0 ≤ k ∧ k < 10) ∧
  ∀ l us outs H', LamX.ExtN H H' → Tb K H' → H' l = some (.lst us) → A2 (SolAt H') us outs → outs.length ≤ 200 → FpM.ColOk M rs bs i k outs → Q (.ref l) H'
theorem a2_of {α : Type} {R : V → α → Prop} {ys : List V} {os : List α} (hl : ys.length = os.length) (h : ∀ (i : Nat) y, ys[i]? = some y → ∃ o, os[i]? = some o ∧ R y o) : A2 R ys os := A2.of_get hl fun i a b ha hb => by
  obtain ⟨o, h1, h2⟩ := h i a ha
  rw [hb] at h1
  cases h1
  exact h2
abbrev s_column : Stmt := topS 46
abbrev N_column : List Str := ["settings", "soup", "boxes", "i", "k", "solids", "triangle", "box", "solid"]
theorem sc_column : FnScope N_column ["settings", "soup", "boxes", "i", "k"] (defScope s_column) := ⟨rfl, rfl, rfl, by decide +kernel, rfl, by decide +kernel, by decide +kernel⟩
theorem bd_column : BindsOf ["settings", "soup", "boxes", "i", "k"] "column" "column" s_column := fun _ _ _ _ _ _ us hl => match us, hl with | [_, _, _, _, _], _ => rfl
theorem cal_column {P : Program} {w : World} {K : PySem.W.Frag} {mg : Str → Option Value} {base : Heap} (T : Tx K mg) (Z : Tz K mg base) : Cal P w K mg base "column" 6 ["settings", "soup", "boxes", "i", "k"] (sp_column K) := by
  refine T.column.cal sc_column bd_column (fun vs H Q E h => ?_) (fun f cdv A outer s H vs Q E hr h => ?_)
  · obtain ⟨se, so, bo, M, tl, ys, zs, rs, bs, i, k, rfl, hse, tb, hso, a2, hbo, b2, hl, sm, hik, kk⟩ := h; rfl
  · have hu := hu_of hr
    obtain ⟨se, so, bo, M, tl, ys, zs, rs, bs, i, k, rfl, hse, tb, hso, a2, hbo, b2, hl, sm, hik, kk⟩ := h
    refine ⟨_, (pss_cons (ps_setLc (i := 5) (own := [("triangle", 6)]) rfl sc_column.nd rfl rfl (sw_true rfl rfl rfl (by decide +kernel)) (pi_list (pv 1)) (blkOk_by (own := [("triangle", 6)]) (N := N_column) (sc := defScope (topS 46)) (by decide +kernel)) (fun _ _ _ _ _ => (pg_name (i := 6) sc_column.nd rfl (.inl rfl))) (fun _ _ _ _ _ => pts_nil) (fun _ _ _ _ _ => (pe_callC (cal_triangle_solid (K := K) T) (hr.mono (by decide)) (by rfl) (pa_cons (pv 0) (pa_cons (pv 6) (pa_cons (pv 3) (pa_cons (pv 4) pa_nil)))))))
      (pss_cons (ps_set (i := 5) sc_column.nd rfl (.inl rfl) (pe_op op_cat (pv 5) (pe_lc (own := [("box", 7)]) rfl sc_column.nd (pi_list (pv 2)) (blkOk_by (own := [("box", 7)]) (N := N_column) (sc := defScope (topS 46)) (by decide +kernel)) (fun _ _ _ _ _ => (pg_name (i := 7) sc_column.nd rfl (.inl rfl))) (fun _ _ _ _ _ => pts_nil) (fun _ _ _ _ _ => (pe_callC (cal_box_solid (K := K) T) (hr.mono (by decide)) (by rfl) (pa_cons (pv 0) (pa_cons (pv 7) (pa_cons (pv 3) (pa_cons (pv 4) pa_nil)))))))))
      (pss_one (ps_ret (pe_callC (cal_merged (K := K) T Z) (hr.mono (by decide)) (by rfl) (pa_cons (pe_lc (own := [("solid", 8)]) rfl sc_column.nd (pi_list (pv 5)) (blkOk_by (own := [("solid", 8)]) (N := N_column) (sc := defScope (topS 46)) (by decide +kernel)) (fun _ _ _ _ _ => (pg_name (i := 8) sc_column.nd rfl (.inl rfl))) (fun _ _ _ _ _ => (pts_one (pt_cmpR op_notN1 (pv 8) pe_non (nomark _)))) (fun _ _ _ _ _ => (pv 8))) pa_nil)))))), ?_⟩
    change (_ : TS) _ [some _, some _, some _, some _, some _, none, none, none, none] H
    have ly := a2.length
    have lz := b2.length
    wtm_at "go"
    intro D hD
    refine lc_mapL hso hD (szt (by omega)) (fun j y H => ∃ o, (rs.map fun R => M.tri R i k)[j]? = some o ∧ SolN D H y o) (fun _ _ _ _ h b => by obtain ⟨o, h1, h2⟩ := h; exact ⟨o, h1, h2.bt b⟩) (fun j x H4 C G hj s4 acc kC => ?_) (fun us H4 s4 hu4 hul he => ?_)
    · change gName 6 _ [some _, some _, some _, some _, some _, _, none, _, _] _ _
      obtain ⟨R, hR, t, rfl, ht⟩ := a2.get hj
      obtain ⟨ac, ha⟩ := acc
      wtm_at "go"
      refine do_triangle_solid (hse.same s4) (ht.tt (Tk.of s4)) (sm R (List.mem_of_getElem? hR)) hik fun y H5 s5 o5 => ?_
      exact kC _ _ s5 ⟨_, by rw [List.getElem?_map, hR]; rfl, .of (s5 _ _ ha) o5⟩
    · have hu2 : A2 (SolF H4) us (rs.map fun R => M.tri R i k) := a2_of (by rw [hul]; simpa using ly) fun j y h => by
        obtain ⟨o, h1, h2⟩ := he j y h
        exact ⟨o, h1, h2.f⟩
      wtm_at "go"
      intro D2 hD2
      refine lc_mapL (s4 _ _ hbo) hD2 (szt (by omega)) (fun j y H => ∃ o, (bs.map fun R => M.box R i k)[j]? = some o ∧ SolN D2 H y o) (fun _ _ _ _ h b => by obtain ⟨o, h1, h2⟩ := h; exact ⟨o, h1, h2.bt b⟩) (fun j x H5 C G hj s5 acc kC => ?_) (fun ws H5 s5 hw5 hwl he2 => ?_)
      · change gName 7 _ [some _, some _, some _, some _, some _, _, _, none, _] _ _
        obtain ⟨R, hR, t, rfl, ht⟩ := b2.get hj
        obtain ⟨ac, ha⟩ := acc
        wtm_at "go"
        refine do_box_solid (hse.same (s4.trans s5)) (s5 _ _ (s4 _ _ ht)) fun y H6 s6 o6 => ?_
        exact kC _ _ s6 ⟨_, by rw [List.getElem?_map, hR]; rfl, .of (s6 _ _ ha) o6⟩
      · have hw2 : A2 (SolF H5) ws (bs.map fun R => M.box R i k) := a2_of (by rw [hwl]; simpa using lz) fun j y h => by
          obtain ⟨o, h1, h2⟩ := he2 j y h
          exact ⟨o, h1, h2.f⟩
        refine i_cat (s5 _ _ hu4) hw5 (Nat.le_of_lt (szt (by omega))) fun p hp => ?_
        wtm_at "go"
        intro D3 hD3
        have t5 : Tk H4 (upd H5 p (.lst (us ++ ws))) := (Tk.of s5).trans (Tk.new hp)
        have ha5 : A2 (SolF (upd H5 p (.lst (us ++ ws)))) (us ++ ws) ((rs.map fun R => M.tri R i k) ++ bs.map fun R => M.box R i k) := (hu2.mono fun v o h => h.tt t5).append (hw2.mono fun v o h => h.tt (Tk.new hp))
        generalize hos : ((rs.map fun R => M.tri R i k) ++ bs.map fun R => M.box R i k) = os at ha5
        have lo : os.length ≤ 200 := by rw [← hos]; simp; omega
        have lu := ha5.length
        refine lc_filL (os.map fun o => o.isSome) upd_same (by rw [List.length_map, lu]) hD3 (szt (by omega)) (fun j x b H6 C G hx hb s6 kT kF => ?_) (fun H6 s6 hz => ?_)
        · change gName 8 _ [some _, some _, some _, some _, some _, _, _, _, none] _ _
          obtain ⟨o, ho, oo⟩ := ha5.get hx
          have eb : b = o.isSome := by
            rw [List.getElem?_map, ho] at hb
            exact (Option.some.inj hb).symm
          wtm_at "go"
          refine i_notN ?_
          wtm_at "go"
          · refine kT ?_ _ (Same.refl _)
            cases o with
            | none => exact absurd oo (by assumption)
            | some f => exact eb
          · refine kF ?_ _ (Same.refl _)
            cases o with
            | none => exact eb
            | some f =>
              obtain ⟨q, rfl, _⟩ := oo
              rename_i hq
              cases hq
        · have s06 : Same H H6 := (s4.trans s5).trans ((same_new hp).trans s6)
          have lf : (os.filterMap id).length ≤ 200 := Nat.le_trans (List.length_filterMap_le _ _) lo
          have fm := (filt_sol ha5).mono fun v f h => h.tt (Tk.of s6)
          have mem : ∀ s, s ∈ os.filterMap id ↔ (∃ t ∈ rs, M.tri t i k = some s) ∨ ∃ b ∈ bs, M.box b i k = some s := fun s => by
            rw [← hos]
            simp [List.mem_filterMap]
          refine do_merged (tb.same s06) hz fm (by rw [fm.length]; omega) (fun s hs tp e => ?_) fun l us' outs H' x' tb' hl' a2' mg => ?_
          · rcases (mem s).mp hs with ⟨t, _, h⟩ | ⟨b, _, h⟩
            · exact FpM.tri_tops h tp e
            · exact FpM.box_tops h tp e
          · exact kk _ _ _ _ ((ExtN.of s06).trans x') tb' hl' a2' (Nat.le_trans mg.len lf) (mg.col mem)
theorem do_column {K : PySem.W.Frag} {H : Hp} {Q : VK} {s so bo : Addr} {M : FpM.Me} {tl : Int} {ys zs : List V} {rs : List FpM.Tr} {bs : List FpM.Bx} {i k : Int} (hse : SeAt K H s M tl) (tb : Tb K H) (hso : H so = some (.lst ys)) (a2 : A2 (TriV H) ys rs) (hbo : H bo = some (.lst zs)) (b2 : A2 (BxV H) zs bs)
    (hl : rs.length ≤ 100 ∧ bs.length ≤ 100) (sm : ∀ R ∈ rs, TrSm R) (hik : 0 ≤ i ∧ i < 10 ∧ 0 ≤ k ∧ k < 10)
    (kk : ∀ l us outs H', LamX.ExtN H H' → Tb K H' → H' l = some (.lst us) → A2 (SolAt H') us outs → outs.length ≤ 200 → FpM.ColOk M rs bs i k outs → Q (.ref l) H') : sp_column K [.ref s, .ref so, .ref bo, .int i, .int k] H Q E0 :=
  ⟨s, so, bo, M, tl, ys, zs, rs, bs, i, k, rfl, hse, tb, hso, a2, hbo, b2, hl, sm, hik, kk⟩
end
section
/-! ### dicts by cells -/
theorem i_dnewT {σ : L2.St} {H : Hp} {Q : VK} (h : ∀ p, H p = none → Q (.ref p) (upd H p (.dT []))) : tDNewT σ H Q := h
theorem i_dput {td ty tv : TE} {D : Ends} {σ : L2.St} {H : Hp} (h : tv σ H fun v H1 => td σ H1 fun x H2 => ty σ H2 fun y H3 => ∃ a H4, x = .ref a ∧ DPut H3 a y v H4 ∧ D.nx σ H4) : sDPut td ty tv D σ H := h
theorem i_dget {td ty : TE} {σ : L2.St} {H : Hp} {Q : VK} (h : td σ H fun x H1 => ty σ H1 fun y H2 => ∃ a v, x = .ref a ∧ DGet H2 a y (some v) ∧ Q v H2) : tDGet td ty σ H Q := h
theorem i_din {td ty : TE} {σ : L2.St} {H : Hp} {Q : VK} (h : ty σ H fun y H1 => td σ H1 fun x H2 => ∃ a o, x = .ref a ∧ DGet H2 a y o ∧ Q (.bl o.isSome) H2) : tDIn ty td σ H Q := h
theorem i_dnotin {td ty : TE} {σ : L2.St} {H : Hp} {Q : VK} (h : ty σ H fun y H1 => td σ H1 fun x H2 => ∃ a o, x = .ref a ∧ DGet H2 a y o ∧ Q (.bl (!o.isSome)) H2) : tDNotIn ty td σ H Q := h
abbrev k2 (i k : Int) : List L2.Key := [.inl i, .inl k]
abbrev k3 (i k l : Int) : List L2.Key := [.inl i, .inl k, .inl l]
theorem i_putT {D : Ends} {σ : L2.St} {H : Hp} {a b : Addr} {kvs : List (List L2.Key × V)} {k : List L2.Key} {v : V} (e : H a = some (.dT kvs)) (eb : H b = some (.tup (k.map kV))) (hl : kvs.length < sizeLine) (h : D.nx σ (upd H a (.dT (putK kvs k v)))) :
    ∃ a' H4, V.ref a = .ref a' ∧ DPut H a' (.ref b) v H4 ∧ D.nx σ H4 := ⟨a, _, rfl, DPut.t e eb hl, h⟩
theorem i_getT {H : Hp} {A : V → Prop} {a b : Addr} {kvs : List (List L2.Key × V)} {k : List L2.Key} {v : V} (e : H a = some (.dT kvs)) (eb : H b = some (.tup (k.map kV))) (hv : valV kvs k = some v) (h : A v) :
    ∃ a' v', V.ref a = .ref a' ∧ DGet H a' (.ref b) (some v') ∧ A v' := ⟨a, v, rfl, by rw [← hv]; exact DGet.t e eb, h⟩
theorem i_hasT {H : Hp} {A : Option V → Prop} {a b : Addr} {kvs : List (List L2.Key × V)} {k : List L2.Key} (e : H a = some (.dT kvs)) (eb : H b = some (.tup (k.map kV))) (h : A (valV kvs k)) :
    ∃ a' o, V.ref a = .ref a' ∧ DGet H a' (.ref b) o ∧ A o := ⟨a, _, rfl, DGet.t e eb, h⟩
theorem k2_ne {i k i' k' : Int} (h : ¬ (i = i' ∧ k = k')) : ¬ k2 i k = k2 i' k' := fun z => h (by simpa using z)
/-- all but tables and dicts stays -/
def Lk (H H' : Hp) : Prop := ∀ b o, H b = some o → (∀ ps, o ≠ .tbl ps) → (∀ kvs, o ≠ .dT kvs) → H' b = some o
theorem Lk.refl (H : Hp) : Lk H H := fun _ _ h _ _ => h
theorem Lk.trans {H H1 H2 : Hp} (a : Lk H H1) (b : Lk H1 H2) : Lk H H2 := fun c o h n m => b c o (a c o h n m) n m
theorem Lk.ofN {H H' : Hp} (e : LamX.ExtN H H') : Lk H H' := fun b o h n _ => e b o h n
theorem Lk.of {H H' : Hp} (e : Same H H') : Lk H H' := fun b o h _ _ => e b o h
theorem Lk.dT {H : Hp} {d : Addr} {o : HO} {kvs : List (List L2.Key × V)} (h : H d = some (.dT kvs)) : Lk H (upd H d o) := fun b u e _ m => by
  rw [upd_ne (fun z => m kvs (by rw [z, h] at e; exact (Option.some.inj e).symm))]
  exact e
theorem Lk.new {H : Hp} {d : Addr} {o : HO} (h : H d = none) : Lk H (upd H d o) := Lk.of (same_new h)
theorem Lk.tup {H H' : Hp} (e : Lk H H') {a : Addr} {xs : List V} (h : H a = some (.tup xs)) : H' a = some (.tup xs) := e _ _ h (by intro _ z; cases z) (by intro _ z; cases z)
theorem Lk.lst {H H' : Hp} (e : Lk H H') {a : Addr} {xs : List V} (h : H a = some (.lst xs)) : H' a = some (.lst xs) := e _ _ h (by intro _ z; cases z) (by intro _ z; cases z)
theorem Lk.tk {H H' : Hp} (e : Lk H H') : Tk H H' := fun _ _ h => e.tup h
theorem SeAt.lk {K : PySem.W.Frag} {H H' : Hp} {a : Addr} {M : FpM.Me} {tl : Int} (h : SeAt K H a M tl) (s : Lk H H') : SeAt K H' a M tl := by
  obtain ⟨dx, h1, h2, sl, e1, e2⟩ := h.ex
  exact ⟨⟨dx, h1, h2, sl, s _ _ e1 (by intro _ z; cases z) (by intro _ z; cases z), s.tup e2⟩, h.ok⟩
theorem Tb.dT {K : PySem.W.Frag} {H : Hp} {p : Addr} {kvs : List (List L2.Key × V)} {o : HO} (t : Tb K H) (h : H p = some (.dT kvs)) : Tb K (upd H p o) := fun q hq => by
  obtain ⟨ps, h1, h2, h3⟩ := t q hq
  refine ⟨ps, by rw [upd_ne (ne_of h1 h (by intro z; cases z))]; exact h1, h2, fun pos cv hc => ?_⟩
  obtain ⟨c, e1, e2⟩ := h3 pos cv hc
  refine ⟨c, e1, ?_⟩
  rw [upd_ne (ne_of e2 h (by unfold LamX.CodeO; intro z; cases z))]
  exact e2
/-- a cell's column in the dict kvs -/
def Ent (M : FpM.Me) (near : List FpM.Tr) (close : List FpM.Bx) (H : Hp) (kvs : List (List L2.Key × V)) (i k : Int) : Prop :=
  ∃ (l : Addr) (us : List V) (outs : List FpM.Sol), valV kvs (k2 i k) = some (.ref l) ∧ H l = some (.lst us) ∧ A2 (SolAt H) us outs ∧ outs.length ≤ 200 ∧ FpM.ColOk M near close i k outs
theorem Ent.lk {M : FpM.Me} {near : List FpM.Tr} {close : List FpM.Bx} {H H' : Hp} {kvs : List (List L2.Key × V)} {i k : Int} (h : Ent M near close H kvs i k) (e : Lk H H') : Ent M near close H' kvs i k := by
  obtain ⟨l, us, outs, h1, h2, h3, h4⟩ := h
  exact ⟨l, us, outs, h1, e.lst h2, h3.mono fun v o h => h.tt e.tk, h4⟩
theorem Ent.put {M : FpM.Me} {near : List FpM.Tr} {close : List FpM.Bx} {H : Hp} {kvs : List (List L2.Key × V)} {i k i' k' : Int} {v : V} (h : Ent M near close H kvs i k) (n : ¬ (i = i' ∧ k = k')) : Ent M near close H (putK kvs (k2 i' k') v) i k := by
  obtain ⟨l, us, outs, h1, h2⟩ := h
  exact ⟨l, us, outs, by rw [valV_put, if_neg (k2_ne n)]; exact h1, h2⟩
/-- the columns' dict at d -/
structure CdAt (M : FpM.Me) (C : Int → Int → List FpM.Sol) (H : Hp) (d : Addr) : Prop where
  ex : ∃ kvs, H d = some (.dT kvs) ∧ ∀ i k, 0 ≤ i → i < M.columns → 0 ≤ k → k < M.rows → ∃ (l : Addr) (us : List V), valV kvs (k2 i k) = some (.ref l) ∧ H l = some (.lst us) ∧ A2 (SolAt H) us (C i k) ∧ (C i k).length ≤ 200
def nearM (M : FpM.Me) (rs : List FpM.Tr) : List FpM.Tr := rs.filter fun R => M.meets (M.triCells R)
def closeM (M : FpM.Me) (bs : List FpM.Bx) : List FpM.Bx := bs.filter fun b => M.meets (M.boxCells b)
def sp_columns_of (K : PySem.W.Frag) : Sp := fun vs H Q _ => ∃ (s so bo : Addr) (M : FpM.Me) (tl : Int) (ys zs : List V) (rs : List FpM.Tr) (bs : List FpM.Bx), vs = [.ref s, .ref so, .ref bo, .int 0, .int 0, .int (M.columns - 1), .int (M.rows - 1)] ∧ SeAt K H s M tl ∧ Tb K H ∧ H so = some (.lst ys) ∧ A2 (TriV H) ys rs ∧ H bo = some (.lst zs) ∧ A2 (BxV H) zs bs ∧
  (rs.length ≤ 100 ∧ bs.length ≤ 100) ∧ (∀ R ∈ rs, TrSm R) ∧
  ∀ d C H', LamX.ExtN H H' → Tb K H' → CdAt M C H' d → (∀ i k, 0 ≤ i → i < M.columns → 0 ≤ k → k < M.rows → FpM.ColOk M (nearM M rs) (closeM M bs) i k (C i k)) → Q (.ref d) H'
end
local macro_rules | `(tactic| wtm_at "go1") => `(tactic| first
  | ((with_reducible show tDNewT _ _ _); refine i_dnewT fun p hp => ?_)
  | with_reducible refine i_dput ?_
  | with_reducible refine i_dget ?_
  | with_reducible refine i_din ?_
  | with_reducible refine i_dnotin ?_)
section
local macro_rules | `(tactic| wtm_at "tb") => `(tactic| (refine Tb.dT ?_ (by assumption); wtm_at "tb"))
abbrev s_columns_of : Stmt := topS 52
abbrev N_columns_of : List Str := ["settings", "soup", "boxes", "i0", "k0", "i1", "k1", "near", "triangle", "close", "box", "found", "k", "i"]
theorem sc_columns_of : FnScope N_columns_of ["settings", "soup", "boxes", "i0", "k0", "i1", "k1"] (defScope s_columns_of) := ⟨rfl, rfl, rfl, by decide +kernel, rfl, by decide +kernel, by decide +kernel⟩
theorem bd_columns_of : BindsOf ["settings", "soup", "boxes", "i0", "k0", "i1", "k1"] "columns_of" "columns_of" s_columns_of := fun _ _ _ _ _ _ us hl => match us, hl with | [_, _, _, _, _, _, _], _ => rfl
theorem cal_columns_of {P : Program} {w : World} {K : PySem.W.Frag} {mg : Str → Option Value} {base : Heap} (T : Tx K mg) (Z : Tz K mg base) : Cal P w K mg base "columns_of" 7 ["settings", "soup", "boxes", "i0", "k0", "i1", "k1"] (sp_columns_of K) := by
  refine T.columns_of.cal sc_columns_of bd_columns_of (fun vs H Q E h => ?_) (fun f cdv A outer s H vs Q E hr h => ?_)
  · obtain ⟨se, so, bo, M, tl, ys, zs, rs, bs, rfl, hse, tb, hso, a2, hbo, b2, hl, sm, kk⟩ := h; rfl
  · have hu := hu_of hr
    obtain ⟨se, so, bo, M, tl, ys, zs, rs, bs, rfl, hse, tb, hso, a2, hbo, b2, hl, sm, kk⟩ := h
    refine ⟨_, (pss_cons (ps_setLc (i := 7) (own := [("triangle", 8)]) rfl sc_columns_of.nd rfl rfl (sw_true rfl rfl rfl (by decide +kernel)) (pi_list (pv 1)) (blkOk_by (own := [("triangle", 8)]) (N := N_columns_of) (sc := defScope (topS 52)) (by decide +kernel)) (fun _ _ _ _ _ => (pg_name (i := 8) sc_columns_of.nd rfl (.inl rfl))) (fun _ _ _ _ _ => (pts_one (pt_val (pe_callC (cal_overlap (K := K) T) (hr.mono (by decide)) (by rfl) (pa_cons (pe_callC (cal_triangle_cells (K := K) T) (hr.mono (by decide)) (by rfl) (pa_cons (pv 0) (pa_cons (pv 8) pa_nil))) (pa_cons (pv 3) (pa_cons (pv 4) (pa_cons (pv 5) (pa_cons (pv 6) pa_nil))))))))) (fun _ _ _ _ _ => (pv 8)))
      (pss_cons (ps_setLc (i := 9) (own := [("box", 10)]) rfl sc_columns_of.nd rfl rfl (sw_true rfl rfl rfl (by decide +kernel)) (pi_list (pv 2)) (blkOk_by (own := [("box", 10)]) (N := N_columns_of) (sc := defScope (topS 52)) (by decide +kernel)) (fun _ _ _ _ _ => (pg_name (i := 10) sc_columns_of.nd rfl (.inl rfl))) (fun _ _ _ _ _ => (pts_one (pt_val (pe_callC (cal_overlap (K := K) T) (hr.mono (by decide)) (by rfl) (pa_cons (pe_callC (cal_cells_of (K := K) T) (hr.mono (by decide)) (by rfl) (pa_cons (pv 0) (pa_cons (pv 10) pa_nil))) (pa_cons (pv 3) (pa_cons (pv 4) (pa_cons (pv 5) (pa_cons (pv 6) pa_nil))))))))) (fun _ _ _ _ _ => (pv 10)))
      (pss_cons (ps_set (i := 11) sc_columns_of.nd rfl (.inl rfl) pe_dnewT)
      (pss_cons (ps_for PassesOwn.never rfl (pi_range2 (by rfl) T.range (pa_cons (pe_callB (c_max2 rfl) (by rfl) T.max b_max (pa_cons (pv 4) (pa_cons pe_int pa_nil))) (pa_cons (pe_callB (c_min2 rfl) (by rfl) T.min b_min (pa_cons (pe_op o_add (pv 6) pe_int) (pa_cons (pe_fld (pv 0) rfl) pa_nil))) pa_nil))) (pg_name (i := 12) sc_columns_of.nd rfl (.inl rfl)) (pss_one (ps_for PassesOwn.never rfl (pi_range2 (by rfl) T.range (pa_cons (pe_callB (c_max2 rfl) (by rfl) T.max b_max (pa_cons (pv 3) (pa_cons pe_int pa_nil))) (pa_cons (pe_callB (c_min2 rfl) (by rfl) T.min b_min (pa_cons (pe_op o_add (pv 5) pe_int) (pa_cons (pe_fld (pv 0) rfl) pa_nil))) pa_nil))) (pg_name (i := 13) sc_columns_of.nd rfl (.inl rfl)) (pss_one (ps_dput hu (pv 11) (pe_tup (pa_cons (pv 13) (pa_cons (pv 12) pa_nil))) (pe_callC (cal_column (K := K) T Z) (hr.mono (by decide)) (by rfl) (pa_cons (pv 0) (pa_cons (pv 7) (pa_cons (pv 9) (pa_cons (pv 13) (pa_cons (pv 12) pa_nil)))))) rfl)))))
      (pss_one (ps_ret (pv 11))))))), ?_⟩
    change (_ : TS) _ [some _, some _, some _, some _, some _, some _, some _, none, none, none, none, none, none, none] H
    have ly := a2.length
    have lz := b2.length
    have mcol := hse.ok.columns
    have mrow := hse.ok.rows
    wtm_at "go"
    intro D hD
    refine lc_filL (rs.map fun R => M.meets (M.triCells R)) hso (by rw [List.length_map, ly]) hD (szt (by omega)) (fun j x b H4 C G hx hb s4 kT kF => ?_) (fun H4 s4 hn4 => ?_)
    · change gName 8 _ [some _, some _, some _, some _, some _, some _, some _, none, none, none, none, none, none, none] _ _
      obtain ⟨R, hR, t, rfl, ht⟩ := a2.get hx
      have eb : b = M.meets (M.triCells R) := by
        rw [List.getElem?_map, hR] at hb
        exact (Option.some.inj hb).symm
      wtm_at "go"
      refine do_triangle_cells (hse.same s4) (ht.tt (Tk.of s4)) fun v H5 s5 hr5 => ?_
      wtm_at "go"
      refine do_overlap hr5 fun H6 s6 => ?_
      wtm_at "go"
      · exact kT (eb.trans (by assumption)) _ (s5.trans s6)
      · exact kF (eb.trans (by assumption)) _ (s5.trans s6)
    · wtm_at "go"
      intro D2 hD2
      refine lc_filL (bs.map fun R => M.meets (M.boxCells R)) (s4 _ _ hbo) (by rw [List.length_map, lz]) hD2 (szt (by omega)) (fun j x b H5 C G hx hb s5 kT kF => ?_) (fun H5 s5 hn5 => ?_)
      · change gName 10 _ [some _, some _, some _, some _, some _, some _, some _, some _, _, none, none, none, none, none] _ _
        obtain ⟨R, hR, t, rfl, ht⟩ := b2.get hx
        have eb : b = M.meets (M.boxCells R) := by
          rw [List.getElem?_map, hR] at hb
          exact (Option.some.inj hb).symm
        wtm_at "go"
        refine do_cells_of ((hse.same s4).same s5) (s5 _ _ (s4 _ _ ht)) fun v H6 s6 hr6 => ?_
        wtm_at "go"
        refine do_overlap hr6 fun H7 s7 => ?_
        wtm_at "go"
        · exact kT (eb.trans (by assumption)) _ (s6.trans s7)
        · exact kF (eb.trans (by assumption)) _ (s6.trans s7)
      · have ⟨⟨dx, h1, h2, sl, e1, e2⟩, mo⟩ := (hse.same s4).same s5
        wtm_at "go"
        rename_i d hd
        have en : pickB ys (rs.map fun R => M.meets (M.triCells R)) = pickB ys (rs.map fun R => M.meets (M.triCells R)) := rfl
        have hn : A2 (TriV H5) (pickB ys (rs.map fun R => M.meets (M.triCells R))) (nearM M rs) := a2.pick.mono fun v R h => h.tt ((Tk.of s4).trans (Tk.of s5))
        have hc : A2 (BxV H5) (pickB zs (bs.map fun R => M.meets (M.boxCells R))) (closeM M bs) := b2.pick.mono fun v R h => h.tt ((Tk.of s4).trans (Tk.of s5))
        have hnear : H5 D = some (.lst (pickB ys (rs.map fun R => M.meets (M.triCells R)))) := s5 _ _ hn4
        have smn : ∀ R ∈ nearM M rs, TrSm R := fun R h => sm R (List.mem_filter.mp h).1
        have lnc : (nearM M rs).length ≤ 100 ∧ (closeM M bs).length ≤ 100 := ⟨Nat.le_trans (List.length_filter_le _ _) hl.1, Nat.le_trans (List.length_filter_le _ _) hl.2⟩
        have er : (if M.rows < M.rows - 1 + 1 then M.rows else M.rows - 1 + 1) = M.rows := by split <;> omega
        have ec : (if M.columns < M.columns - 1 + 1 then M.columns else M.columns - 1 + 1) = M.columns := by split <;> omega
        have e0 : (if (0 : Int) > 0 then (0 : Int) else 0) = 0 := rfl
        rw [er, e0]
        have x5 : LamX.ExtN H H5 := ExtN.of (s4.trans s5)
        have tb5 : Tb K H5 := (tb.same s4).same s5
        refine for_range (fun k σ H' => (∃ yk yi, σ = [some (.ref se), some (.ref so), some (.ref bo), some (.int 0), some (.int 0), some (.int (M.columns - 1)), some (.int (M.rows - 1)), some (.ref D), none, some (.ref D2), none, some (.ref d), yk, yi]) ∧
            LamX.ExtN H5 H' ∧ Tb K H' ∧ ∃ kvs, H' d = some (.dT kvs) ∧ kvs.length ≤ 6 * k ∧ ∀ i' k', 0 ≤ i' → i' < M.columns → 0 ≤ k' → k' < (k : Int) → Ent M (nearM M rs) (closeM M bs) H' kvs i' k')
          ⟨⟨_, _, rfl⟩, ext_new hd, tb5.same (same_new hd), [], upd_same, Nat.zero_le _, fun i' k' _ _ h1 h2 => absurd h2 (by simp; omega)⟩ (fun k σ H6 hk h6 => ?_) (fun σ H6 h6 => ?_)
        · obtain ⟨⟨yk, yi, rfl⟩, x6, tb6, kvs, hd6, lk6, en6⟩ := h6
          have ⟨⟨dx, h1, h2, sl, e1, e2⟩, mo⟩ := ((hse.same s4).same s5).ext x6
          have hk4 : (k : Int) < M.rows := by omega
          wtm_at "go"
          rw [ec, e0]
          refine for_range (fun i σ H' => (∃ yi, σ = [some (.ref se), some (.ref so), some (.ref bo), some (.int 0), some (.int 0), some (.int (M.columns - 1)), some (.int (M.rows - 1)), some (.ref D), none, some (.ref D2), none, some (.ref d), some (.int (0 + (k : Int))), yi]) ∧
              LamX.ExtN H5 H' ∧ Tb K H' ∧ ∃ kvs, H' d = some (.dT kvs) ∧ kvs.length ≤ 6 * k + i ∧ ∀ i' k', 0 ≤ i' → i' < M.columns → 0 ≤ k' → (k' < (k : Int) ∨ (k' = (k : Int) ∧ i' < (i : Int))) → Ent M (nearM M rs) (closeM M bs) H' kvs i' k')
            ⟨⟨_, rfl⟩, x6, tb6, kvs, hd6, by omega, fun i' k' a b c d => en6 i' k' a b c (by omega)⟩ (fun i σ H7 hi h7 => ?_) (fun σ H7 h7 => ?_)
          · obtain ⟨⟨yi, rfl⟩, x7, tb7, kvs, hd7, lk7, en7⟩ := h7
            have hi6 : (i : Int) < M.columns := by omega
            wtm_at "go"
            refine do_column (((hse.same s4).same s5).ext x7) tb7 (x7 _ _ hnear (by intro _ z; cases z)) (hn.mono fun v R h => h.tt (Tk.ofN x7)) (x7 _ _ hn5 (by intro _ z; cases z)) (hc.mono fun v R h => h.tt (Tk.ofN x7)) lnc smn (by omega) fun l us outs H8 x8 tb8 hl8 a8 lo8 col8 => ?_
            wtm_at "go"
            rename_i q hq
            have hd8 : H8 d = some (.dT kvs) := x8 _ _ hd7 (by intro _ z; cases z)
            have hd9 := upd_new (q := HO.tup [.int (0 + (i : Int)), .int (0 + (k : Int))]) hq hd8
            refine i_putT (k := k2 (0 + (i : Int)) (0 + (k : Int))) hd9 upd_same (szt (by omega)) ?_
            have lk9 : Lk H8 (upd (upd H8 q (.tup [.int (0 + (i : Int)), .int (0 + (k : Int))])) d (.dT (putK kvs (k2 (0 + (i : Int)) (0 + (k : Int))) (.ref l)))) := (Lk.new hq).trans (Lk.dT hd9)
            refine ⟨⟨_, rfl⟩, ?_, (tb8.same (same_new hq)).dT hd9, _, upd_same, Nat.le_trans (length_putK _ _ _) (by omega), fun i' k' a b c dd => ?_⟩
            · refine ext_mut hd (x7.trans (x8.trans (ext_new hq)))
            · by_cases e : i' = 0 + (i : Int) ∧ k' = 0 + (k : Int)
              · obtain ⟨rfl, rfl⟩ := e
                exact ⟨l, us, outs, by rw [valV_put, if_pos rfl], lk9.lst hl8, a8.mono fun v o h => h.tt lk9.tk, lo8, col8⟩
              · exact (((en7 i' k' a b c (by omega)).lk (Lk.ofN x8)).put e).lk lk9
          · obtain ⟨⟨yi, rfl⟩, x7, tb7, kvs, hd7, lk7, en7⟩ := h7
            refine ⟨⟨_, _, rfl⟩, x7, tb7, kvs, hd7, by omega, fun i' k' a b c dd => en7 i' k' a b c (by omega)⟩
        · obtain ⟨⟨yk, yi, rfl⟩, x6, tb6, kvs, hd6, lk6, en6⟩ := h6
          wtm_at "go"
          have ex : ∀ i k : Int, ∃ outs : List FpM.Sol, 0 ≤ i → i < M.columns → 0 ≤ k → k < M.rows → ∃ (l : Addr) (us : List V), valV kvs (k2 i k) = some (.ref l) ∧ H6 l = some (.lst us) ∧ A2 (SolAt H6) us outs ∧ outs.length ≤ 200 ∧ FpM.ColOk M (nearM M rs) (closeM M bs) i k outs := fun i k => by
            by_cases h : 0 ≤ i ∧ i < M.columns ∧ 0 ≤ k ∧ k < M.rows
            · obtain ⟨l, us, outs, r⟩ := en6 i k h.1 h.2.1 h.2.2.1 (by omega)
              exact ⟨outs, fun _ _ _ _ => ⟨l, us, r⟩⟩
            · exact ⟨[], fun a b c d => absurd ⟨a, b, c, d⟩ h⟩
          refine kk d (fun i k => Classical.choose (ex i k)) H6 (x5.trans x6) tb6 ⟨kvs, hd6, fun i k a b c d => ?_⟩ fun i k a b c d => ?_
          · obtain ⟨l, us, r1, r2, r3, r4, _⟩ := Classical.choose_spec (ex i k) a b c d
            exact ⟨l, us, r1, r2, r3, r4⟩
          · obtain ⟨l, us, r1, r2, r3, r4, r5⟩ := Classical.choose_spec (ex i k) a b c d
            exact r5
theorem do_columns_of {K : PySem.W.Frag} {H : Hp} {Q : VK} {s so bo : Addr} {M : FpM.Me} {tl : Int} {ys zs : List V} {rs : List FpM.Tr} {bs : List FpM.Bx} (hse : SeAt K H s M tl) (tb : Tb K H) (hso : H so = some (.lst ys)) (a2 : A2 (TriV H) ys rs) (hbo : H bo = some (.lst zs)) (b2 : A2 (BxV H) zs bs)
    (hl : rs.length ≤ 100 ∧ bs.length ≤ 100) (sm : ∀ R ∈ rs, TrSm R)
    (kk : ∀ d C H', LamX.ExtN H H' → Tb K H' → CdAt M C H' d → (∀ i k, 0 ≤ i → i < M.columns → 0 ≤ k → k < M.rows → FpM.ColOk M (nearM M rs) (closeM M bs) i k (C i k)) → Q (.ref d) H') :
    sp_columns_of K [.ref s, .ref so, .ref bo, .int 0, .int 0, .int (M.columns - 1), .int (M.rows - 1)] H Q E0 := ⟨s, so, bo, M, tl, ys, zs, rs, bs, rfl, hse, tb, hso, a2, hbo, b2, hl, sm, kk⟩
end
section
/-! ### settings' methods, levels -/
theorem g_tup {X : Cx} (K : PySem.W.Frag) (n : Nat) {es : List Expr} {k : Nat} {pos : Pos} {t : TGs} (hc : X.calm = true) (h : PGs X es t) (e : X.K = K) (hn : (assignEach es X.env).length = n) (hst : (assignEach es X.env).findIdx? (·.1) = none) : PG X (.Tuple es k pos) (gTup K n t) := e ▸ pg_tup hc h hn hst
theorem at_nat {α : Type} {xs : List α} {i : Nat} {x : α} (h : xs[i]? = some x) : atI xs (0 + (i : Int)) = some x := by rw [Int.zero_add]; exact atI_nat h
theorem at_nat1 {α : Type} {xs : List α} {i : Nat} {x : α} (h : xs[i + 1]? = some x) : atI xs (0 + (i : Int) + 1) = some x := by rw [Int.zero_add]; exact atI_nat (j := i + 1) h
theorem i_callM {C : Addr} {m : Str} {sp : Sp} {ta : TE} {t : TA} {σ : L2.St} {H : Hp} {Q : VK} (h : ta σ H fun x H1 => ∃ a dx fs, x = .ref a ∧ H1 a = some (.ins C dx fs) ∧ fs.lookup m = none ∧ t σ H1 fun vs H2 => sp (x :: vs) H2 Q E0) : tCalM C m sp ta t σ H Q := h
theorem i_self {K : PySem.W.Frag} {H : Hp} {a dx sl : Addr} {M : FpM.Me} {h st tl : Int} {m : Str} {A : Prop} (s : H a = some (.ins (CS K) dx (sf M h st tl sl))) (hm : (sf M h st tl sl).lookup m = none) (q : A) :
    ∃ a' dx' fs, V.ref a = .ref a' ∧ H a' = some (.ins (CS K) dx' fs) ∧ fs.lookup m = none ∧ A := ⟨a, dx, _, rfl, s, hm, q⟩
/-- comprehensions that choose, whichever way -/
theorem lc_subL {K : PySem.W.Frag} {σ : L2.St} {vs : List Nat} {g : TG} {tt : TT} {te : TE} {H : Hp} {D a : Addr} {xs : List V} {Qd : Hp → Prop} (E : V → Prop) (s : H a = some (.lst xs)) (hD : H D = none) (hz : xs.length < sizeLine)
    (turn : ∀ (i : Nat) x H' (C : VK) (G : Hp → Prop), xs[i]? = some x → Same H H' → (∀ y, E y → ∀ H4, Same H' H4 → C y H4) → (∀ H4, Same H' H4 → G H4) →
      g x (wipe σ vs) H' fun σ2 H2 => wipe σ2 vs = wipe σ vs ∧ tt σ2 H2 fun b H3 => if b = true then te σ2 H3 C else G H3)
    (done : ∀ zs H', Same H H' → H' D = some (.lst zs) → zs.length ≤ xs.length → (∀ z ∈ zs, E z) → Qd H') :
    ∃ W : Nat → Nat → Hp → Prop, (∃ m, W 0 m (upd H D (.lst []))) ∧ ∀ i m H, W i m H →
      ((Itl K a).stop i H ∧ Qd H) ∨ ((Itl K a).go i H ∧ ∃ Nx : Hp → Prop, (∀ H', Nx H' → ∃ m', m' < m ∧ W (i + 1) m' H') ∧ ∀ x H', (Itl K a).yld i H x H' → g x (wipe σ vs) H' fun σ2 H2 => wipe σ2 vs = wipe σ vs ∧ tt σ2 H2 fun b H3 =>
        if b = true then te σ2 H3 fun y H4 => ∃ acc, H4 D = some (.lst acc) ∧ acc.length < sizeLine ∧ Nx (upd H4 D (.lst (acc ++ [y]))) else Nx H3) := by
  refine lc_list (xs := xs) (fun i H' => Same H H' ∧ ∃ zs, H' D = some (.lst zs) ∧ zs.length ≤ i ∧ ∀ z ∈ zs, E z) ⟨same_new hD, [], upd_same, Nat.le_refl _, fun z h => absurd h (by simp)⟩ (fun i H' _ p => SqL.of (p.1 _ _ s)) (fun i x H' hx ⟨sm, zs, hy, hl, he⟩ => ?_) fun H' ⟨sm, zs, hy, hl, he⟩ => done zs H' sm hy hl he
  have hi := (List.getElem?_eq_some_iff.mp hx).1
  refine turn i x H' _ _ hx sm (fun y ey H4 s4 => ⟨zs, s4 _ _ hy, by omega, same_mut hD (sm.trans s4), zs ++ [y], upd_same, by simp; omega, fun z hz => ?_⟩) (fun H4 s4 => ⟨sm.trans s4, zs, s4 _ _ hy, by omega, he⟩)
  rcases List.mem_append.mp hz with h | h
  · exact he z h
  · rw [List.mem_singleton.mp h]; exact ey
end
section
local macro_rules | `(tactic| wtm_at "tb") => `(tactic| (refine Tb.dT ?_ (by assumption); wtm_at "tb"))
local macro_rules | `(tactic| wtm_at "go1") => `(tactic| first
  | with_reducible refine i_callM ?_
  | ((with_reducible show ∃ _, ∃ _, ∃ _, V.ref _ = _ ∧ _ ∧ _ ∧ _); refine i_self (by wtm_at "hp") (by rfl) ?_))
def sp_Settings_has_cell (K : PySem.W.Frag) : Sp := fun vs H Q _ => ∃ (s : Addr) (M : FpM.Me) (tl i k : Int), vs = [.ref s, .int i, .int k] ∧ SeAt K H s M tl ∧ ∀ H', Same H H' → Q (.bl (decide ((0 ≤ i ∧ i < M.columns) ∧ 0 ≤ k ∧ k < M.rows))) H'
abbrev s_Settings_has_cell : Stmt := inClass (topS 28) 1
abbrev N_Settings_has_cell : List Str := ["self", "i", "k"]
theorem sc_Settings_has_cell : FnScope N_Settings_has_cell ["self", "i", "k"] (defScope s_Settings_has_cell) := ⟨rfl, rfl, rfl, by decide +kernel, rfl, by decide +kernel, by decide +kernel⟩
theorem bd_Settings_has_cell : BindsOf ["self", "i", "k"] "has_cell" "Settings.has_cell" s_Settings_has_cell := fun _ _ _ _ _ _ us hl => match us, hl with | [_, _, _], _ => rfl
theorem cal_m_has_cell {P : Program} {w : World} {K : PySem.W.Frag} {mg : Str → Option Value} {base : Heap} (T : Tx K mg) : CalM P w K mg base (CS K) "has_cell" 1 ["self", "i", "k"] (sp_Settings_has_cell K) := by
  refine T.m_has_cell.cal sc_Settings_has_cell bd_Settings_has_cell (fun vs H Q E h => ?_) (fun f cdv A outer s H vs Q E hr h => ?_)
  · obtain ⟨se, M, tl, i, k, rfl, hse, kk⟩ := h; rfl
  · have hu := hu_of hr
    obtain ⟨se, M, tl, i, k, rfl, hse, kk⟩ := h
    refine ⟨_, (pss_one (ps_ret (pe_and (pe_chain o_le o_lt pe_int (pv 1) (pe_fld (pv 0) rfl)) (pe_one (pe_chain o_le o_lt pe_int (pv 2) (pe_fld (pv 0) rfl)))))), ?_⟩
    change (_ : TS) _ [some _, some _, some _] H
    have ⟨⟨dx, h1, h2, sl, e1, e2⟩, mo⟩ := hse
    have hk := kk _ (Same.refl _)
    wtm_at "go"
    all_goals first
      | (rw [decide_eq_false (by omega)] at hk; exact hk)
      | (refine cast (congrArg (fun b => Q (V.bl b) H) (decide_eq_decide.mpr ?_)) hk; omega)
theorem do_has_cell {K : PySem.W.Frag} {H : Hp} {Q : VK} {s : Addr} {M : FpM.Me} {tl i k : Int} (hs : SeAt K H s M tl) (kk : ∀ H', Same H H' → Q (.bl (decide ((0 ≤ i ∧ i < M.columns) ∧ 0 ≤ k ∧ k < M.rows))) H') : sp_Settings_has_cell K [.ref s, .int i, .int k] H Q E0 := ⟨s, M, tl, i, k, rfl, hs, kk⟩
def TopOk (M : FpM.Me) (outs : List FpM.Sol) (L : Int) : Prop := ∃ o ∈ outs, o.2.1 = L ∧ ∃ tp, o.2.2 = some tp ∧ L - M.slack ≤ tp
def sp_open_levels (K : PySem.W.Frag) : Sp := fun vs H Q _ => ∃ (s l : Addr) (M : FpM.Me) (tl : Int) (us : List V) (outs : List FpM.Sol), vs = [.ref s, .ref l] ∧ SeAt K H s M tl ∧ H l = some (.lst us) ∧ A2 (SolAt H) us outs ∧ outs.length ≤ 200 ∧
  ∀ (r : Addr) (ns : List Int) H', Same H H' → H' r = some (.lst (ns.map V.int)) → ns.length ≤ 200 → (∀ L ∈ ns, TopOk M outs L) → Q (.ref r) H'
abbrev s_open_levels : Stmt := topS 1
abbrev N_open_levels : List Str := ["settings", "solids", "found", "at", "lo", "hi", "top", "flat", "room"]
theorem sc_open_levels : FnScope N_open_levels ["settings", "solids"] (defScope s_open_levels) := ⟨rfl, rfl, rfl, by decide +kernel, rfl, by decide +kernel, by decide +kernel⟩
theorem bd_open_levels : BindsOf ["settings", "solids"] "open_levels" "open_levels" s_open_levels := fun _ _ _ _ _ _ us hl => match us, hl with | [_, _], _ => rfl
theorem cal_open_levels {P : Program} {w : World} {K : PySem.W.Frag} {mg : Str → Option Value} {base : Heap} (T : Tx K mg) : Cal P w K mg base "open_levels" 1 ["settings", "solids"] (sp_open_levels K) := by
  refine T.open_levels.cal sc_open_levels bd_open_levels (fun vs H Q E h => ?_) (fun f cdv A outer s H vs Q E hr h => ?_)
  · obtain ⟨se, l, M, tl, us, outs, rfl, hse, hl, a2, lo, k⟩ := h; rfl
  · have hu := hu_of hr
    obtain ⟨se, l, M, tl, us, outs, rfl, hse, hl, a2, lo, k⟩ := h
    refine ⟨_, (pss_cons (ps_set (i := 2) sc_open_levels.nd rfl (.inl rfl) (pe_lst pa_nil))
      (pss_cons (ps_for PassesOwn.never rfl (pi_range1 (by rfl) T.range (pa_cons (pe_callB (c_len K) (by rfl) T.len PySem.boot_len (pa_cons (pv 1) pa_nil)) pa_nil)) (pg_name (i := 3) sc_open_levels.nd rfl (.inl rfl)) (pss_cons (ps_asg (pe_ix (x_list K) (pv 1) (pv 3) (fun _ _ => rfl)) (pg_tup rfl (pgs_cons (pg_name (i := 4) sc_open_levels.nd rfl (.inl rfl)) (pgs_cons (pg_name (i := 5) sc_open_levels.nd rfl (.inl rfl)) (pgs_cons (pg_name (i := 6) sc_open_levels.nd rfl (.inl rfl)) pgs_nil)))))
      (Evl.pss_cut (ps_set (i := 7) sc_open_levels.nd rfl (.inl rfl) (pe_and (pe_cmpR op_notN1 (pv 6) pe_non (nomark _)) (pe_one (pe_cmpR op_ge1 (pv 6) (pe_op o_sub (pv 5) (pe_fld (pv 0) rfl)) (nomark _)))))
      (Evl.pss_cut (ps_set (i := 8) sc_open_levels.nd rfl (.inl rfl) (pe_or (pe_cmpR op_eq (pe_op o_add (pv 3) pe_int) (pe_callB (c_len K) (by rfl) T.len PySem.boot_len (pa_cons (pv 1) pa_nil)) (nomark _)) (pe_one (pe_cmpR op_ge1 (pe_ix (x_tup K) (pe_ix (x_list K) (pv 1) (pe_op o_add (pv 3) pe_int) (fun _ _ => rfl)) pe_int (fun _ _ => rfl)) (pe_op o_add (pv 5) (pe_fld (pv 0) rfl)) (nomark _)))))
      (pss_one (ps_if (PW.pt (pw_and (pt_val (pv 7)) (pw_and1 (pt_val (pv 8))))) (pss_one (ps_expr (pe_bm PySem.F.plainAttrs_list PySem.F.slot_list_append PySem.F.type_list_append mt_append (pv 2) (pa_cons (pv 5) pa_nil)))) pss_nil))))))
      (pss_one (ps_ret (pv 2))))), ?_⟩
    change (_ : TS) _ [some _, some _, none, none, none, none, none, none, none] H
    have ⟨⟨dx, h1, h2, sl, e1, e2⟩, mo⟩ := hse
    have lu := a2.length
    wtm_at "go"
    refine i_lenL (by wtm_at "hp") ?_
    wtm_at "go"
    rename_i F hF
    rw [show ((us.length : Nat) : Int).toNat = us.length by simp]
    refine for_range (fun i σ H' => (∃ y3 y4 y5 y6 y7 y8, σ = [some (.ref se), some (.ref l), some (.ref F), y3, y4, y5, y6, y7, y8]) ∧ Same H H' ∧ ∃ ns : List Int, H' F = some (.lst (ns.map V.int)) ∧ ns.length ≤ i ∧ ∀ L ∈ ns, TopOk M outs L)
      ⟨⟨_, _, _, _, _, _, rfl⟩, same_new hF, [], upd_same, Nat.le_refl _, fun L h => absurd h (by simp)⟩ (fun i σ H2 hi h2 => ?_) (fun σ H2 h2 => ?_)
    · obtain ⟨⟨y3, y4, y5, y6, y7, y8, rfl⟩, s2, ns, hF2, ln, en⟩ := h2
      obtain ⟨x, hx⟩ : ∃ x, us[i]? = some x := ⟨us[i], List.getElem?_eq_getElem hi⟩
      obtain ⟨o, ho, q, rfl, hq⟩ := a2.get hx
      have hx' := at_nat hx
      have mem := List.mem_of_getElem? ho
      obtain ⟨o1, o2, o3⟩ := o
      have hl2 := s2 _ _ hl
      simp only at hq
      have hq2 := s2 _ _ hq
      have ⟨⟨dx, h1, h2, sl, e1, e2⟩, mo⟩ := hse.same s2
      wtm_at "go"
      refine i_cut (fun σ' H' => ∃ fl, σ' = [some (.ref se), some (.ref l), some (.ref F), some (.int (0 + (i : Int))), some (.int o1), some (.int o2), some (topV o3), some (.bl fl), y8] ∧ H2 = H' ∧ (fl = true → ∃ tp, o3 = some tp ∧ o2 - M.slack ≤ tp)) ?_ ?_
      · cases o3 with
        | none =>
          simp only [topV]
          wtm_at "go"
          exact ⟨_, rfl, rfl, fun z => by cases z⟩
        | some tp =>
          simp only [topV]
          wtm_at "go"
          exact ⟨_, rfl, rfl, fun z => ⟨tp, rfl, of_decide_eq_true z⟩⟩
      · rintro σ' H' ⟨fl, rfl, rfl, hfl⟩
        wtm_at "go"
        refine i_cut (fun σ' H' => ∃ rm, σ' = [some (.ref se), some (.ref l), some (.ref F), some (.int (0 + (i : Int))), some (.int o1), some (.int o2), some (topV o3), some (.bl fl), some (.bl rm)] ∧ H2 = H') ?_ ?_
        · wtm_at "go"
          refine i_lenL hl2 ?_
          wtm_at "go"
          · exact ⟨_, rfl, rfl⟩
          · rename_i hne
            obtain ⟨x', hx'⟩ : ∃ x, us[i + 1]? = some x := ⟨us[i + 1]'(by omega), List.getElem?_eq_getElem (by omega)⟩
            obtain ⟨o', ho', q', rfl, hq'⟩ := a2.get hx'
            have hx2 := at_nat1 hx'
            have hq3 := s2 _ _ hq'
            wtm_at "go"
            exact ⟨_, rfl, rfl⟩
        · rintro σ' H' ⟨rm, rfl, rfl⟩
          cases fl
          · wtm_at "go"
            exact ⟨⟨_, _, _, _, _, _, rfl⟩, s2, ns, hF2, by omega, en⟩
          · cases rm
            · wtm_at "go"
              exact ⟨⟨_, _, _, _, _, _, rfl⟩, s2, ns, hF2, by omega, en⟩
            · have lnm : (ns.map V.int).length ≤ 1000 := by simp; omega
              wtm_at "go"
              refine ⟨⟨_, _, _, _, _, _, rfl⟩, same_mut hF s2, ns ++ [o2], by rw [upd_same]; simp, by simp; omega, fun L hL => ?_⟩
              rcases List.mem_append.mp hL with h | h
              · exact en L h
              · rw [List.mem_singleton.mp h]
                exact ⟨_, mem, rfl, hfl rfl⟩
    · obtain ⟨⟨y3, y4, y5, y6, y7, y8, rfl⟩, s2, ns, hF2, ln, en⟩ := h2
      wtm_at "go"
      exact k _ _ _ s2 hF2 (by omega) en
theorem do_open_levels {K : PySem.W.Frag} {H : Hp} {Q : VK} {s l : Addr} {M : FpM.Me} {tl : Int} {us : List V} {outs : List FpM.Sol} (hse : SeAt K H s M tl) (hl : H l = some (.lst us)) (a2 : A2 (SolAt H) us outs) (lo : outs.length ≤ 200)
    (k : ∀ (r : Addr) (ns : List Int) H', Same H H' → H' r = some (.lst (ns.map V.int)) → ns.length ≤ 200 → (∀ L ∈ ns, TopOk M outs L) → Q (.ref r) H') : sp_open_levels K [.ref s, .ref l] H Q E0 := ⟨s, l, M, tl, us, outs, rfl, hse, hl, a2, lo, k⟩
def freeM (outs : List FpM.Sol) (low high : Int) : Bool := outs.all fun o => decide (o.2.1 ≤ low ∨ high ≤ o.1)
def sp_is_free (K : PySem.W.Frag) : Sp := fun vs H Q _ => ∃ (l : Addr) (us : List V) (outs : List FpM.Sol) (low high : Int), vs = [.ref l, .int low, .int high] ∧ H l = some (.lst us) ∧ A2 (SolAt H) us outs ∧ outs.length ≤ 200 ∧ ∀ H', Same H H' → Q (.bl (freeM outs low high)) H'
abbrev s_is_free : Stmt := topS 2
abbrev N_is_free : List Str := ["solids", "low", "high", "lo", "hi", "top"]
theorem sc_is_free : FnScope N_is_free ["solids", "low", "high"] (defScope s_is_free) := ⟨rfl, rfl, rfl, by decide +kernel, rfl, by decide +kernel, by decide +kernel⟩
theorem bd_is_free : BindsOf ["solids", "low", "high"] "is_free" "is_free" s_is_free := fun _ _ _ _ _ _ us hl => match us, hl with | [_, _, _], _ => rfl
theorem cal_is_free {P : Program} {w : World} {K : PySem.W.Frag} {mg : Str → Option Value} {base : Heap} (T : Tx K mg) : Cal P w K mg base "is_free" 1 ["solids", "low", "high"] (sp_is_free K) := by
  refine T.is_free.cal sc_is_free bd_is_free (fun vs H Q E h => ?_) (fun f cdv A outer s H vs Q E hr h => ?_)
  · obtain ⟨l, us, outs, low, high, rfl, hl, a2, lo, k⟩ := h; rfl
  · have hu := hu_of hr
    obtain ⟨l, us, outs, low, high, rfl, hl, a2, lo, k⟩ := h
    refine ⟨_, (pss_one (ps_ret (pe_callB (cr_all rfl) (by rfl) T.all b_all (pa_cons (pe_lc (own := [("lo", 3), ("hi", 4), ("top", 5)]) rfl sc_is_free.nd (pi_list (pv 0)) (blkOk_by (own := [("lo", 3), ("hi", 4), ("top", 5)]) (N := N_is_free) (sc := defScope (topS 2)) (by decide +kernel)) (fun _ _ _ _ _ => (g_tup K 3 rfl (pgs_cons (pg_name (i := 3) sc_is_free.nd rfl (.inl rfl) (.inr rfl)) (pgs_cons (pg_name (i := 4) sc_is_free.nd rfl (.inl rfl) (.inr rfl)) (pgs_cons (pg_name (i := 5) sc_is_free.nd rfl (.inl rfl) (.inr rfl)) pgs_nil))) rfl rfl rfl)) (fun _ _ _ _ _ => pts_nil) (fun _ _ _ _ _ => (pe_or (pe_cmpR o_le (pv 4) (pv 1) (nomark _)) (pe_one (pe_cmpR op_ge1 (pv 3) (pv 2) (nomark _)))))) pa_nil)))), ?_⟩
    change (_ : TS) _ [some _, some _, some _, none, none, none] H
    have lu := a2.length
    wtm_at "go"
    intro D hD
    refine lc_mapL hl hD (szt (by omega)) (fun j y _ => ∃ o, outs[j]? = some o ∧ y = .bl (decide (o.2.1 ≤ low ∨ high ≤ o.1))) (fun _ _ _ _ h _ => h) (fun j x H4 C G hj s4 acc kC => ?_) (fun zs H4 s4 hz hzl he => ?_)
    · change gTup _ _ _ _ [some _, some _, some _, none, none, none] _ _
      obtain ⟨o, ho, q, rfl, hq⟩ := a2.get hj
      have hq4 := s4 _ _ hq
      have kk := fun (b : Bool) (e : b = decide (o.2.1 ≤ low ∨ high ≤ o.1)) => kC (.bl b) H4 (Same.refl _) ⟨o, ho, by rw [e]⟩
      wtm_at "go"
      · exact kk _ (decide_eq_true (by omega)).symm
      · exact kk _ (decide_eq_decide.mpr (by omega))
    · have e1 : zs = (outs.map fun o => decide (o.2.1 ≤ low ∨ high ≤ o.1)).map V.bl := by
        refine List.ext_getElem? fun j => ?_
        cases hj : zs[j]? with
        | none =>
          have : zs.length ≤ j := List.getElem?_eq_none_iff.mp hj
          rw [List.getElem?_eq_none (by simp only [List.length_map]; omega)]
        | some y =>
          obtain ⟨o, ho, e⟩ := he j y hj
          simp [ho, e]
      wtm_at "go"
      refine ⟨D, outs.map fun o => decide (o.2.1 ≤ low ∨ high ≤ o.1), rfl, SqL.of (by rw [hz, e1]), ?_⟩
      have := k H4 s4
      unfold freeM at this
      wtm_at "go"
      simpa [List.all_map] using this
theorem do_is_free {K : PySem.W.Frag} {H : Hp} {Q : VK} {l : Addr} {us : List V} {outs : List FpM.Sol} {low high : Int} (hl : H l = some (.lst us)) (a2 : A2 (SolAt H) us outs) (lo : outs.length ≤ 200) (k : ∀ H', Same H H' → Q (.bl (freeM outs low high)) H') : sp_is_free K [.ref l, .int low, .int high] H Q E0 := ⟨l, us, outs, low, high, rfl, hl, a2, lo, k⟩
/-- room for the body about (i, k) -/
def RoomOk (M : FpM.Me) (C : Int → Int → List FpM.Sol) (i k L : Int) : Prop := ∀ a b, i - M.reach ≤ a → a ≤ i + M.reach → k - M.reach ≤ b → b ≤ k + M.reach →
    (0 ≤ a ∧ a < M.columns ∧ 0 ≤ b ∧ b < M.rows) ∧ ∀ o ∈ C a b, o.2.1 ≤ L + M.rise ∨ L + M.tall ≤ o.1
def sp_has_room (K : PySem.W.Frag) : Sp := fun vs H Q _ => ∃ (s d : Addr) (M : FpM.Me) (tl : Int) (C : Int → Int → List FpM.Sol) (i k L : Int), vs = [.ref s, .ref d, .int i, .int k, .int L] ∧ SeAt K H s M tl ∧ CdAt M C H d ∧ (-100 ≤ i ∧ i ≤ 100 ∧ -100 ≤ k ∧ k ≤ 100) ∧
  ∀ b H', Same H H' → (b = true → RoomOk M C i k L) → Q (.bl b) H'
theorem CdAt.same {M : FpM.Me} {C : Int → Int → List FpM.Sol} {H H' : Hp} {d : Addr} (h : CdAt M C H d) (s : Same H H') : CdAt M C H' d := by
  obtain ⟨kvs, h1, h2⟩ := h.ex
  refine ⟨kvs, s _ _ h1, fun i k a b c d => ?_⟩
  obtain ⟨l, us, r1, r2, r3, r4⟩ := h2 i k a b c d
  exact ⟨l, us, r1, s _ _ r2, r3.mono fun v o h => h.tt (Tk.of s), r4⟩
abbrev s_has_room : Stmt := topS 3
abbrev N_has_room : List Str := ["settings", "columns", "i", "k", "level", "reach", "down", "right"]
theorem sc_has_room : FnScope N_has_room ["settings", "columns", "i", "k", "level"] (defScope s_has_room) := ⟨rfl, rfl, rfl, by decide +kernel, rfl, by decide +kernel, by decide +kernel⟩
theorem bd_has_room : BindsOf ["settings", "columns", "i", "k", "level"] "has_room" "has_room" s_has_room := fun _ _ _ _ _ _ us hl => match us, hl with | [_, _, _, _, _], _ => rfl
theorem cal_has_room {P : Program} {w : World} {K : PySem.W.Frag} {mg : Str → Option Value} {base : Heap} (T : Tx K mg) : Cal P w K mg base "has_room" 2 ["settings", "columns", "i", "k", "level"] (sp_has_room K) := by
  refine T.has_room.cal sc_has_room bd_has_room (fun vs H Q E h => ?_) (fun f cdv A outer s H vs Q E hr h => ?_)
  · obtain ⟨se, d, M, tl, C, i, k, L, rfl, hse, hcd, hik, kk⟩ := h; rfl
  · have hu := hu_of hr
    obtain ⟨se, d, M, tl, C, i, k, L, rfl, hse, hcd, hik, kk⟩ := h
    refine ⟨_, (pss_cons (ps_set (i := 5) sc_has_room.nd rfl (.inl rfl) (pe_fld (pv 0) rfl))
      (pss_cons (ps_for PassesOwn.never rfl (pi_range2 (by rfl) T.range (pa_cons (pe_op o_sub (pv 3) (pv 5)) (pa_cons (pe_op o_add (pe_op o_add (pv 3) (pv 5)) pe_int) pa_nil))) (pg_name (i := 6) sc_has_room.nd rfl (.inl rfl)) (pss_one (ps_for PassesOwn.never rfl (pi_range2 (by rfl) T.range (pa_cons (pe_op o_sub (pv 2) (pv 5)) (pa_cons (pe_op o_add (pe_op o_add (pv 2) (pv 5)) pe_int) pa_nil))) (pg_name (i := 7) sc_has_room.nd rfl (.inl rfl)) (pss_cons (ps_if (pt_not (pt_val (pe_methC (cal_m_has_cell (K := K) T) T.cls (hr.mono (by decide)) (pv 0) (pa_cons (pv 7) (pa_cons (pv 6) pa_nil))))) (pss_one (ps_ret pe_bl)) pss_nil)
      (pss_one (ps_if (pt_not (pt_val (pe_callC (cal_is_free (K := K) T) (hr.mono (by decide)) (by rfl) (pa_cons (pe_dget hu (pv 1) (pe_tup (pa_cons (pv 7) (pa_cons (pv 6) pa_nil))) (fun _ _ => rfl)) (pa_cons (pe_op o_add (pv 4) (pe_fld (pv 0) rfl)) (pa_cons (pe_op o_add (pv 4) (pe_fld (pv 0) rfl)) pa_nil)))))) (pss_one (ps_ret pe_bl)) pss_nil))))))
      (pss_one (ps_ret pe_bl)))), ?_⟩
    change (_ : TS) _ [some _, some _, some _, some _, some _, none, none, none] H
    have ⟨⟨dx, h1, h2, sl, e1, e2⟩, mo⟩ := hse
    have mr := mo.reach
    obtain ⟨kvs, hd, hent⟩ := hcd.ex
    wtm_at "go"
    refine for_range (fun j σ H' => (∃ y6 y7, σ = [some (.ref se), some (.ref d), some (.int i), some (.int k), some (.int L), some (.int M.reach), y6, y7]) ∧ Same H H' ∧ ∀ a b, i - M.reach ≤ a → a ≤ i + M.reach → k - M.reach ≤ b → b < k - M.reach + (j : Int) →
        (0 ≤ a ∧ a < M.columns ∧ 0 ≤ b ∧ b < M.rows) ∧ ∀ o ∈ C a b, o.2.1 ≤ L + M.rise ∨ L + M.tall ≤ o.1)
      ⟨⟨_, _, rfl⟩, Same.refl _, fun a b _ _ h3 h4 => absurd h4 (by simp; omega)⟩ (fun j σ H2 hj h2' => ?_) (fun σ H2 h2' => ?_)
    · obtain ⟨⟨y6, y7, rfl⟩, s2, ok2⟩ := h2'
      wtm_at "go"
      refine for_range (fun n σ H' => (∃ y7, σ = [some (.ref se), some (.ref d), some (.int i), some (.int k), some (.int L), some (.int M.reach), some (.int (k - M.reach + (j : Int))), y7]) ∧ Same H H' ∧ ∀ a b, i - M.reach ≤ a → k - M.reach ≤ b →
          ((b < k - M.reach + (j : Int) ∧ a ≤ i + M.reach) ∨ (b = k - M.reach + (j : Int) ∧ a < i - M.reach + (n : Int))) → (0 ≤ a ∧ a < M.columns ∧ 0 ≤ b ∧ b < M.rows) ∧ ∀ o ∈ C a b, o.2.1 ≤ L + M.rise ∨ L + M.tall ≤ o.1)
        ⟨⟨_, rfl⟩, s2, fun a b h1 h2 h3 => ok2 a b h1 (by omega) h2 (by omega)⟩ (fun n σ H3 hn h3' => ?_) (fun σ H3 h3' => ?_)
      · obtain ⟨⟨y7, rfl⟩, s3, ok3⟩ := h3'
        have e13 := s3 _ _ e1
        wtm_at "go"
        refine do_has_cell (hse.same s3) fun H4 s4 => ?_
        by_cases hc : (0 ≤ i - M.reach + (n : Int) ∧ i - M.reach + (n : Int) < M.columns) ∧ 0 ≤ k - M.reach + (j : Int) ∧ k - M.reach + (j : Int) < M.rows
        · rw [decide_eq_true hc]
          obtain ⟨l, us, r1, r2, r3, r4⟩ := hent _ _ hc.1.1 hc.1.2 hc.2.1 hc.2.2
          have s04 := s3.trans s4
          have hd4 := s04 _ _ hd
          wtm_at "go"
          rename_i q hq
          refine i_getT (k := k2 (i - M.reach + (n : Int)) (k - M.reach + (j : Int))) (H := upd H4 q (.tup [.int (i - M.reach + (n : Int)), .int (k - M.reach + (j : Int))])) (upd_new hq hd4) upd_same r1 ?_
          have sq : Same H (upd H4 q (.tup [.int (i - M.reach + (n : Int)), .int (k - M.reach + (j : Int))])) := s04.trans (same_new hq)
          have e14 := sq _ _ e1
          wtm_at "go"
          refine do_is_free (sq _ _ r2) (r3.mono fun v o h => h.tt (Tk.of sq)) r4 fun H5 s5 => ?_
          cases hf : freeM (C (i - M.reach + (n : Int)) (k - M.reach + (j : Int))) (L + M.rise) (L + M.tall)
          · wtm_at "go"
            exact kk _ _ (sq.trans s5) fun z => by cases z
          · wtm_at "go"
            refine ⟨⟨_, rfl⟩, sq.trans s5, fun a b h1 h2 h3 => ?_⟩
            by_cases e : a = i - M.reach + (n : Int) ∧ b = k - M.reach + (j : Int)
            · obtain ⟨rfl, rfl⟩ := e
              refine ⟨by omega, fun o ho => ?_⟩
              unfold freeM at hf
              exact of_decide_eq_true (List.all_eq_true.mp hf o ho)
            · exact ok3 a b h1 h2 (by omega)
        · rw [decide_eq_false hc]
          wtm_at "go"
          exact kk _ _ (s3.trans s4) fun z => by cases z
      · obtain ⟨⟨y7, rfl⟩, s3, ok3⟩ := h3'
        refine ⟨⟨_, _, rfl⟩, s3, fun a b h1 h2 h3 h4 => ok3 a b h1 h3 (by omega)⟩
    · obtain ⟨⟨y6, y7, rfl⟩, s2, ok2⟩ := h2'
      wtm_at "go"
      exact kk _ _ s2 fun _ a b h1 h2 h3 h4 => ok2 a b h1 h2 h3 (by omega)
theorem do_has_room {K : PySem.W.Frag} {H : Hp} {Q : VK} {s d : Addr} {M : FpM.Me} {tl : Int} {C : Int → Int → List FpM.Sol} {i k L : Int} (hse : SeAt K H s M tl) (hcd : CdAt M C H d) (hik : -100 ≤ i ∧ i ≤ 100 ∧ -100 ≤ k ∧ k ≤ 100)
    (kk : ∀ b H', Same H H' → (b = true → RoomOk M C i k L) → Q (.bl b) H') : sp_has_room K [.ref s, .ref d, .int i, .int k, .int L] H Q E0 := ⟨s, d, M, tl, C, i, k, L, rfl, hse, hcd, hik, kk⟩
end
section
theorem none_of {H H' : Hp} {r : Addr} (s : Same H H') (h : H' r = none) : H r = none := by
  cases e : H r with
  | none => rfl
  | some o => rw [s _ _ e] at h; cases h
theorem ceil_small {n u B : Int} (hu : 2 ≤ u) (h : 0 ≤ n ∧ n ≤ B) (hB : 0 ≤ B) : 0 ≤ FpM.ceilM n u ∧ FpM.ceilM n u ≤ B := by
  constructor
  · have := (FpM.ceil_le (n := n) (u := u) (by omega)).1
    refine Int.not_lt.mp fun z => ?_
    have k : FpM.ceilM n u * u < 0 := Int.mul_neg_of_neg_of_pos z (by omega)
    omega
  · refine FpM.ceil_le_of (by omega) ?_
    have := FpM.scale (w := B) hB (show 1 ≤ u by omega)
    have e : u * B = B * u := Int.mul_comm _ _
    omega
end
section
local macro_rules | `(tactic| wtm_at "go1") => `(tactic| first
  | with_reducible refine i_callM ?_
  | ((with_reducible show ∃ _, ∃ _, ∃ _, V.ref _ = _ ∧ _ ∧ _ ∧ _); refine i_self (by wtm_at "hp") (by rfl) ?_))
def InTile (M : FpM.Me) (tl a b : Int) (p : Int × Int) : Prop := a * tl ≤ p.1 ∧ p.1 < (a + 1) * tl ∧ p.1 < M.columns ∧ b * tl ≤ p.2 ∧ p.2 < (b + 1) * tl ∧ p.2 < M.rows
def sp_Settings_tile_cells (K : PySem.W.Frag) : Sp := fun vs H Q _ => ∃ (s : Addr) (M : FpM.Me) (tl a b : Int), vs = [.ref s, .int a, .int b] ∧ SeAt K H s M tl ∧ (0 ≤ a ∧ a ≤ 10 ∧ 0 ≤ b ∧ b ≤ 10) ∧
  ∀ (r : Addr) (ys : List V) (ps : List (Int × Int)) H', H r = none → Same H H' → H' r = some (.lst ys) → A2 (FrAt H') ys ps → ps.length ≤ 24 → (∀ p, p ∈ ps ↔ InTile M tl a b p) → Q (.ref r) H'
abbrev s_Settings_tile_cells : Stmt := inClass (topS 28) 3
abbrev N_Settings_tile_cells : List Str := ["self", "a", "b", "found", "k", "i"]
theorem sc_Settings_tile_cells : FnScope N_Settings_tile_cells ["self", "a", "b"] (defScope s_Settings_tile_cells) := ⟨rfl, rfl, rfl, by decide +kernel, rfl, by decide +kernel, by decide +kernel⟩
theorem bd_Settings_tile_cells : BindsOf ["self", "a", "b"] "tile_cells" "Settings.tile_cells" s_Settings_tile_cells := fun _ _ _ _ _ _ us hl => match us, hl with | [_, _, _], _ => rfl
theorem cal_m_tile_cells {P : Program} {w : World} {K : PySem.W.Frag} {mg : Str → Option Value} {base : Heap} (T : Tx K mg) : CalM P w K mg base (CS K) "tile_cells" 1 ["self", "a", "b"] (sp_Settings_tile_cells K) := by
  refine T.m_tile_cells.cal sc_Settings_tile_cells bd_Settings_tile_cells (fun vs H Q E h => ?_) (fun f cdv A outer s H vs Q E hr h => ?_)
  · obtain ⟨se, M, tl, a, b, rfl, hse, hab, kk⟩ := h; rfl
  · have hu := hu_of hr
    obtain ⟨se, M, tl, a, b, rfl, hse, hab, kk⟩ := h
    refine ⟨_, (pss_cons (ps_set (i := 3) sc_Settings_tile_cells.nd rfl (.inl rfl) (pe_lst pa_nil))
      (pss_cons (ps_for PassesOwn.never rfl (pi_range2 (by rfl) T.range (pa_cons (pe_op o_mul (pv 2) (pe_fld (pv 0) rfl)) (pa_cons (pe_callB (c_min2 rfl) (by rfl) T.min b_min (pa_cons (pe_op o_mul (pe_op o_add (pv 2) pe_int) (pe_fld (pv 0) rfl)) (pa_cons (pe_fld (pv 0) rfl) pa_nil))) pa_nil))) (pg_name (i := 4) sc_Settings_tile_cells.nd rfl (.inl rfl)) (pss_one (ps_for PassesOwn.never rfl (pi_range2 (by rfl) T.range (pa_cons (pe_op o_mul (pv 1) (pe_fld (pv 0) rfl)) (pa_cons (pe_callB (c_min2 rfl) (by rfl) T.min b_min (pa_cons (pe_op o_mul (pe_op o_add (pv 1) pe_int) (pe_fld (pv 0) rfl)) (pa_cons (pe_fld (pv 0) rfl) pa_nil))) pa_nil))) (pg_name (i := 5) sc_Settings_tile_cells.nd rfl (.inl rfl)) (pss_one (ps_expr (pe_bm PySem.F.plainAttrs_list PySem.F.slot_list_append PySem.F.type_list_append mt_append (pv 3) (pa_cons (pe_tup (pa_cons (pv 5) (pa_cons (pv 4) pa_nil))) pa_nil)))))))
      (pss_one (ps_ret (pv 3))))), ?_⟩
    change (_ : TS) _ [some _, some _, some _, none, none, none] H
    have ⟨⟨dx, h1, h2, sl, e1, e2⟩, mo⟩ := hse
    have mt := mo.tile
    have mr := mo.rows
    have mc := mo.columns
    have b0 := FpM.mul_nn hab.1 (show 0 ≤ tl by omega)
    have b1 := FpM.scale (w := tl) (by omega) hab.2.1
    have b2 := FpM.mul_nn hab.2.2.1 (show 0 ≤ tl by omega)
    have b3 := FpM.scale (w := tl) (by omega) hab.2.2.2
    have ea : (a + 1) * tl = a * tl + tl := by rw [Int.add_mul]; omega
    have eb : (b + 1) * tl = b * tl + tl := by rw [Int.add_mul]; omega
    wtm_at "go"
    rename_i F hF
    generalize hn : ((if M.rows < (b + 1) * tl then M.rows else (b + 1) * tl) - b * tl).toNat = n
    have hn4 : n ≤ 4 ∧ b * tl + (n : Int) ≤ max (b * tl) M.rows := by
      split at hn <;> omega
    refine for_range (fun j σ H' => (∃ y4 y5, σ = [some (.ref se), some (.int a), some (.int b), some (.ref F), y4, y5]) ∧ Same H H' ∧ ∃ (ys : List V) (ps : List (Int × Int)), H' F = some (.lst ys) ∧ A2 (FrAt H') ys ps ∧ ps.length ≤ 6 * j ∧ ∀ p, p ∈ ps ↔ (b * tl ≤ p.2 ∧ p.2 < b * tl + (j : Int) ∧ a * tl ≤ p.1 ∧ p.1 < (a + 1) * tl ∧ p.1 < M.columns))
      ⟨⟨_, _, rfl⟩, same_new hF, [], [], upd_same, .nil, Nat.zero_le _, fun p => ⟨fun h => absurd h (by simp), fun h => by omega⟩⟩ (fun j σ H2 hj h2' => ?_) (fun σ H2 h2' => ?_)
    · obtain ⟨⟨y4, y5, rfl⟩, s2, ys, ps, hF2, a2, lp, ep⟩ := h2'
      have e12 := s2 _ _ e1
      wtm_at "go"
      generalize hm : ((if M.columns < (a + 1) * tl then M.columns else (a + 1) * tl) - a * tl).toNat = m
      have hm6 : m ≤ 6 ∧ a * tl + (m : Int) ≤ max (a * tl) M.columns := by
        split at hm <;> omega
      refine for_range (fun q σ H' => (∃ y5, σ = [some (.ref se), some (.int a), some (.int b), some (.ref F), some (.int (b * tl + (j : Int))), y5]) ∧ Same H H' ∧ ∃ (ys : List V) (ps : List (Int × Int)), H' F = some (.lst ys) ∧ A2 (FrAt H') ys ps ∧ ps.length ≤ 6 * j + q ∧ ∀ p, p ∈ ps ↔ ((b * tl ≤ p.2 ∧ p.2 < b * tl + (j : Int) ∧ a * tl ≤ p.1 ∧ p.1 < (a + 1) * tl ∧ p.1 < M.columns) ∨ (p.2 = b * tl + (j : Int) ∧ a * tl ≤ p.1 ∧ p.1 < a * tl + (q : Int))))
        ⟨⟨_, rfl⟩, s2, ys, ps, hF2, a2, by omega, fun p => (ep p).trans ⟨fun h => .inl h, fun h => by omega⟩⟩ (fun q σ H3 hq h3' => ?_) (fun σ H3 h3' => ?_)
      · obtain ⟨⟨y5, rfl⟩, s3, ys, ps, hF3, a3, lp3, ep3⟩ := h3'
        have ly := a3.length
        wtm_at "go"
        rename_i p hp
        refine ⟨⟨_, rfl⟩, by wtm_at "sm", _, ps ++ [(a * tl + (q : Int), b * tl + (j : Int))], upd_same, ?_, by simp; omega, fun z => ?_⟩
        · refine (a3.mono fun v o h => h.tt (by wtm_at "tt")).snoc ⟨p, rfl, by wtm_at "hp"⟩
        · rw [List.mem_append, List.mem_singleton, ep3 z]
          constructor
          · rintro (h | rfl)
            · omega
            · refine .inr ⟨rfl, ?_, ?_⟩
              · show a * tl ≤ a * tl + (q : Int)
                omega
              · show a * tl + (q : Int) < a * tl + ((q + 1 : Nat) : Int)
                omega
          · intro h
            by_cases e : z.1 = a * tl + (q : Int) ∧ z.2 = b * tl + (j : Int)
            · exact .inr (Prod.ext e.1 e.2)
            · exact .inl (by omega)
      · obtain ⟨⟨y5, rfl⟩, s3, ys, ps, hF3, a3, lp3, ep3⟩ := h3'
        refine ⟨⟨_, _, rfl⟩, s3, ys, ps, hF3, a3, by omega, fun p => (ep3 p).trans ⟨fun h => ?_, fun h => ?_⟩⟩
        · split at hm <;> omega
        · split at hm <;> omega
    · obtain ⟨⟨y4, y5, rfl⟩, s2, ys, ps, hF2, a2, lp, ep⟩ := h2'
      wtm_at "go"
      refine kk _ _ _ _ hF s2 hF2 a2 (by omega) fun p => (ep p).trans ⟨fun h => ?_, fun h => ?_⟩
      · unfold InTile; split at hn <;> omega
      · unfold InTile at h; split at hn <;> omega
theorem do_tile_cells {K : PySem.W.Frag} {H : Hp} {Q : VK} {s : Addr} {M : FpM.Me} {tl a b : Int} (hse : SeAt K H s M tl) (hab : 0 ≤ a ∧ a ≤ 10 ∧ 0 ≤ b ∧ b ≤ 10)
    (kk : ∀ (r : Addr) (ys : List V) (ps : List (Int × Int)) H', H r = none → Same H H' → H' r = some (.lst ys) → A2 (FrAt H') ys ps → ps.length ≤ 24 → (∀ p, p ∈ ps ↔ InTile M tl a b p) → Q (.ref r) H') : sp_Settings_tile_cells K [.ref s, .int a, .int b] H Q E0 := ⟨s, M, tl, a, b, rfl, hse, hab, kk⟩
def sp_Settings_tiles (K : PySem.W.Frag) : Sp := fun vs H Q _ => ∃ (s : Addr) (M : FpM.Me) (tl : Int), vs = [.ref s] ∧ SeAt K H s M tl ∧
  ∀ (r : Addr) (ys : List V) (ps : List (Int × Int)) H', Same H H' → H' r = some (.lst ys) → A2 (FrAt H') ys ps → ps.length ≤ 24 → (∀ p ∈ ps, 0 ≤ p.1 ∧ p.1 ≤ 10 ∧ 0 ≤ p.2 ∧ p.2 ≤ 10) → Q (.ref r) H'
abbrev s_Settings_tiles : Stmt := inClass (topS 28) 2
abbrev N_Settings_tiles : List Str := ["self", "found", "b", "a"]
theorem sc_Settings_tiles : FnScope N_Settings_tiles ["self"] (defScope s_Settings_tiles) := ⟨rfl, rfl, rfl, by decide +kernel, rfl, by decide +kernel, by decide +kernel⟩
theorem bd_Settings_tiles : BindsOf ["self"] "tiles" "Settings.tiles" s_Settings_tiles := fun _ _ _ _ _ _ us hl => match us, hl with | [_], _ => rfl
theorem cal_m_tiles {P : Program} {w : World} {K : PySem.W.Frag} {mg : Str → Option Value} {base : Heap} (T : Tx K mg) : CalM P w K mg base (CS K) "tiles" 2 ["self"] (sp_Settings_tiles K) := by
  refine T.m_tiles.cal sc_Settings_tiles bd_Settings_tiles (fun vs H Q E h => ?_) (fun f cdv A outer s H vs Q E hr h => ?_)
  · obtain ⟨se, M, tl, rfl, hse, kk⟩ := h; rfl
  · have hu := hu_of hr
    obtain ⟨se, M, tl, rfl, hse, kk⟩ := h
    refine ⟨_, (pss_cons (ps_set (i := 1) sc_Settings_tiles.nd rfl (.inl rfl) (pe_lst pa_nil))
      (pss_cons (ps_for PassesOwn.never rfl (pi_range1 (by rfl) T.range (pa_cons (pe_callC (cal_ceiled (K := K) T) (hr.mono (by decide)) (by rfl) (pa_cons (pe_fld (pv 0) rfl) (pa_cons (pe_fld (pv 0) rfl) pa_nil))) pa_nil)) (pg_name (i := 2) sc_Settings_tiles.nd rfl (.inl rfl)) (pss_one (ps_for PassesOwn.never rfl (pi_range1 (by rfl) T.range (pa_cons (pe_callC (cal_ceiled (K := K) T) (hr.mono (by decide)) (by rfl) (pa_cons (pe_fld (pv 0) rfl) (pa_cons (pe_fld (pv 0) rfl) pa_nil))) pa_nil)) (pg_name (i := 3) sc_Settings_tiles.nd rfl (.inl rfl)) (pss_one (ps_expr (pe_bm PySem.F.plainAttrs_list PySem.F.slot_list_append PySem.F.type_list_append mt_append (pv 1) (pa_cons (pe_tup (pa_cons (pv 3) (pa_cons (pv 2) pa_nil))) pa_nil)))))))
      (pss_one (ps_ret (pv 1))))), ?_⟩
    change (_ : TS) _ [some _, none, none, none] H
    have ⟨⟨dx, h1, h2, sl, e1, e2⟩, mo⟩ := hse
    have mt := mo.tile
    have mr := mo.rows
    have mc := mo.columns
    have cr := ceil_small (n := M.rows) (u := tl) (B := 4) (by omega) (by omega) (by omega)
    have cc := ceil_small (n := M.columns) (u := tl) (B := 6) (by omega) (by omega) (by omega)
    wtm_at "go"
    rename_i F hF
    refine do_ceiled (by omega) fun H1 s1 => ?_
    wtm_at "go"
    have s1' : Same H H1 := (same_new hF).trans s1
    have hF1 := s1 _ _ upd_same
    generalize hn : (FpM.ceilM M.rows tl).toNat = n
    refine for_range (fun j σ H' => (∃ y4 y5, σ = [some (.ref se), some (.ref F), y4, y5]) ∧ Same H H' ∧ ∃ (ys : List V) (ps : List (Int × Int)), H' F = some (.lst ys) ∧ A2 (FrAt H') ys ps ∧ ps.length ≤ 6 * j ∧ ∀ p ∈ ps, 0 ≤ p.1 ∧ p.1 ≤ 10 ∧ 0 ≤ p.2 ∧ p.2 ≤ 10)
      ⟨⟨_, _, rfl⟩, s1', [], [], hF1, .nil, Nat.zero_le _, fun p h => absurd h (by simp)⟩ (fun j σ H2 hj h2' => ?_) (fun σ H2 h2' => ?_)
    · obtain ⟨⟨y4, y5, rfl⟩, s2, ys, ps, hF2, a2, lp, ep⟩ := h2'
      have e12 := s2 _ _ e1
      wtm_at "go"
      refine do_ceiled (by omega) fun H3 s3 => ?_
      wtm_at "go"
      generalize hm : (FpM.ceilM M.columns tl).toNat = m
      refine for_range (fun q σ H' => (∃ y5, σ = [some (.ref se), some (.ref F), some (.int (0 + (j : Int))), y5]) ∧ Same H H' ∧ ∃ (ys : List V) (ps : List (Int × Int)), H' F = some (.lst ys) ∧ A2 (FrAt H') ys ps ∧ ps.length ≤ 6 * j + q ∧ ∀ p ∈ ps, 0 ≤ p.1 ∧ p.1 ≤ 10 ∧ 0 ≤ p.2 ∧ p.2 ≤ 10)
        ⟨⟨_, rfl⟩, s2.trans s3, ys, ps, s3 _ _ hF2, a2.mono fun v o h => h.tt (Tk.of s3), by omega, ep⟩ (fun q σ H3 hq h3' => ?_) (fun σ H3 h3' => ?_)
      · obtain ⟨⟨y5, rfl⟩, s3, ys, ps, hF3, a3, lp3, ep3⟩ := h3'
        have ly := a3.length
        wtm_at "go"
        rename_i p hp
        refine ⟨⟨_, rfl⟩, by wtm_at "sm", _, ps ++ [(0 + (q : Int), 0 + (j : Int))], upd_same, ?_, by simp; omega, fun z hz => ?_⟩
        · refine (a3.mono fun v o h => h.tt (by wtm_at "tt")).snoc ⟨p, rfl, by wtm_at "hp"⟩
        · rcases List.mem_append.mp hz with h | h
          · exact ep3 z h
          · rw [List.mem_singleton.mp h]
            simp only
            omega
      · obtain ⟨⟨y5, rfl⟩, s3, ys, ps, hF3, a3, lp3, ep3⟩ := h3'
        exact ⟨⟨_, _, rfl⟩, s3, ys, ps, hF3, a3, by omega, ep3⟩
    · obtain ⟨⟨y4, y5, rfl⟩, s2, ys, ps, hF2, a2, lp, ep⟩ := h2'
      wtm_at "go"
      exact kk _ _ _ _ s2 hF2 a2 (by omega) ep
theorem do_tiles {K : PySem.W.Frag} {H : Hp} {Q : VK} {s : Addr} {M : FpM.Me} {tl : Int} (hse : SeAt K H s M tl)
    (kk : ∀ (r : Addr) (ys : List V) (ps : List (Int × Int)) H', Same H H' → H' r = some (.lst ys) → A2 (FrAt H') ys ps → ps.length ≤ 24 → (∀ p ∈ ps, 0 ≤ p.1 ∧ p.1 ≤ 10 ∧ 0 ≤ p.2 ∧ p.2 ≤ 10) → Q (.ref r) H') : sp_Settings_tiles K [.ref s] H Q E0 := ⟨s, M, tl, rfl, hse, kk⟩
def sp_levels_of (K : PySem.W.Frag) : Sp := fun vs H Q _ => ∃ (s d : Addr) (M : FpM.Me) (tl : Int) (C : Int → Int → List FpM.Sol) (i k : Int), vs = [.ref s, .ref d, .int i, .int k] ∧ SeAt K H s M tl ∧ CdAt M C H d ∧ (0 ≤ i ∧ i < M.columns ∧ 0 ≤ k ∧ k < M.rows) ∧
  ∀ (r : Addr) (ns : List Int) H', H r = none → Same H H' → H' r = some (.lst (ns.map V.int)) → ns.length ≤ 200 → (∀ L ∈ ns, FpM.FloorOk M C i k L) → Q (.ref r) H'
theorem ints_of : ∀ {zs : List V} {P : Int → Prop}, (∀ z ∈ zs, ∃ n, z = V.int n ∧ P n) → ∃ ns : List Int, zs = ns.map V.int ∧ ∀ n ∈ ns, P n
  | [], _, _ => ⟨[], rfl, fun _ h => absurd h (by simp)⟩
  | z :: zs, P, h => by
    obtain ⟨n, rfl, hn⟩ := h z List.mem_cons_self
    obtain ⟨ns, rfl, hs⟩ := ints_of (P := P) fun y hy => h y (List.mem_cons_of_mem _ hy)
    refine ⟨n :: ns, rfl, fun m hm => ?_⟩
    rcases List.mem_cons.mp hm with rfl | hm
    · exact hn
    · exact hs m hm
abbrev s_levels_of : Stmt := topS 4
abbrev N_levels_of : List Str := ["settings", "columns", "i", "k", "levels", "level"]
theorem sc_levels_of : FnScope N_levels_of ["settings", "columns", "i", "k"] (defScope s_levels_of) := ⟨rfl, rfl, rfl, by decide +kernel, rfl, by decide +kernel, by decide +kernel⟩
theorem bd_levels_of : BindsOf ["settings", "columns", "i", "k"] "levels_of" "levels_of" s_levels_of := fun _ _ _ _ _ _ us hl => match us, hl with | [_, _, _, _], _ => rfl
theorem cal_levels_of {P : Program} {w : World} {K : PySem.W.Frag} {mg : Str → Option Value} {base : Heap} (T : Tx K mg) : Cal P w K mg base "levels_of" 3 ["settings", "columns", "i", "k"] (sp_levels_of K) := by
  refine T.levels_of.cal sc_levels_of bd_levels_of (fun vs H Q E h => ?_) (fun f cdv A outer s H vs Q E hr h => ?_)
  · obtain ⟨se, d, M, tl, C, i, k, rfl, hse, hcd, hik, kk⟩ := h; rfl
  · have hu := hu_of hr
    obtain ⟨se, d, M, tl, C, i, k, rfl, hse, hcd, hik, kk⟩ := h
    refine ⟨_, (pss_cons (ps_set (i := 4) sc_levels_of.nd rfl (.inl rfl) (pe_callC (cal_open_levels (K := K) T) (hr.mono (by decide)) (by rfl) (pa_cons (pv 0) (pa_cons (pe_dget hu (pv 1) (pe_tup (pa_cons (pv 2) (pa_cons (pv 3) pa_nil))) (fun _ _ => rfl)) pa_nil))))
      (pss_one (ps_ret (pe_lc (own := [("level", 5)]) rfl sc_levels_of.nd (pi_list (pv 4)) (blkOk_by (own := [("level", 5)]) (N := N_levels_of) (sc := defScope (topS 4)) (by decide +kernel)) (fun _ _ _ _ _ => (pg_name (i := 5) sc_levels_of.nd rfl (.inl rfl))) (fun _ _ _ _ _ => (pts_one (pt_val (pe_callC (cal_has_room (K := K) T) (hr.mono (by decide)) (by rfl) (pa_cons (pv 0) (pa_cons (pv 1) (pa_cons (pv 2) (pa_cons (pv 3) (pa_cons (pv 5) pa_nil))))))))) (fun _ _ _ _ _ => (pv 5)))))), ?_⟩
    change (_ : TS) _ [some _, some _, some _, some _, none, none] H
    have ⟨⟨dx, h1, h2, sl, e1, e2⟩, mo⟩ := hse
    have mr := mo.rows
    have mc := mo.columns
    obtain ⟨kvs, hd, hent⟩ := hcd.ex
    obtain ⟨l, us, r1, r2, r3, r4⟩ := hent _ _ hik.1 hik.2.1 hik.2.2.1 hik.2.2.2
    wtm_at "go"
    rename_i q hq
    refine i_getT (k := k2 i k) (upd_new hq hd) upd_same r1 ?_
    wtm_at "go"
    refine do_open_levels (hse.same (same_new hq)) (upd_new hq r2) (r3.mono fun v o h => h.tt (Tk.new hq)) r4 fun r ns H1 s1 hr ln en => ?_
    wtm_at "go"
    intro D hD
    have s01 : Same H H1 := (same_new hq).trans s1
    refine lc_subL (fun z => ∃ n, z = V.int n ∧ FpM.FloorOk M C i k n) hr hD (szt (by simp; omega)) (fun j x H4 C' G hj s4 kT kF => ?_) (fun zs H4 s4 hz hzl he => ?_)
    · change gName 5 _ [some _, some _, some _, some _, some _, none] _ _
      obtain ⟨n, hn, rfl⟩ : ∃ n, ns[j]? = some n ∧ V.int n = x := by simpa using hj
      have tn := en n (List.mem_of_getElem? hn)
      wtm_at "go"
      refine do_has_room (hse.same (s01.trans s4)) (hcd.same (s01.trans s4)) (by omega) fun b H5 s5 hb => ?_
      wtm_at "go"
      · rename_i hbt
        exact kT _ ⟨n, rfl, tn, hb hbt⟩ _ s5
      · exact kF _ s5
    · obtain ⟨ns', rfl, hns⟩ := ints_of he
      exact kk _ _ _ (none_of s01 hD) (s01.trans s4) hz (by simp at hzl; omega) hns
theorem do_levels_of {K : PySem.W.Frag} {H : Hp} {Q : VK} {s d : Addr} {M : FpM.Me} {tl : Int} {C : Int → Int → List FpM.Sol} {i k : Int} (hse : SeAt K H s M tl) (hcd : CdAt M C H d) (hik : 0 ≤ i ∧ i < M.columns ∧ 0 ≤ k ∧ k < M.rows)
    (kk : ∀ (r : Addr) (ns : List Int) H', H r = none → Same H H' → H' r = some (.lst (ns.map V.int)) → ns.length ≤ 200 → (∀ L ∈ ns, FpM.FloorOk M C i k L) → Q (.ref r) H') : sp_levels_of K [.ref s, .ref d, .int i, .int k] H Q E0 := ⟨s, d, M, tl, C, i, k, rfl, hse, hcd, hik, kk⟩
end
section
/-! ### dict comprehensions whose keys are tuples: HandS.DictComp's rule, turned to .dT -/
theorem d_dictSetT {X : Cx} {pins : List (Addr × Obj)} {σ : L2.St} {H : Hp} {s : Shared} {E : Value → Shared → Prop} {D c : Addr} {kvs : List (List L2.Key × V)} {k : List L2.Key} {v : V} {u r : Value} {Q : Unit → Shared → Prop} (hu : X.A.units < cLine) (I : Inv X pins σ H s) (hD : H D = some (.dT kvs)) (hc : H c = some (.tup (k.map kV))) (hz : kvs.length < sizeLine)
    (ry : L2.RelV (.ref c) u) (rv : L2.RelV v r) (h : ∀ s', Inv X pins σ (upd H D (.dT (putK kvs k v))) s' → Q () s') : wpAny (model X.prog X.w) X.A (dictSet D u r) Q E s := by
  cases (show u = Value.ref c from ry)
  obtain ⟨z, hd, xs, rel, dd⟩ := dt_of I.hok hD
  have hz : xs.length ≤ sizeLine := by rw [← Paired.length rel]; exact z
  have hl : (putK kvs k v).length ≤ sizeLine := by have := length_putK kvs k v; omega
  refine wpAny_dictSet_heap (hsz := hz) (show (PySem.tupleKind _).room X.A from hu) (key_of I.hok hc) dd fun h' dd' hs => h _ ?_
  obtain ⟨q, es, ep, hq, h2, h3, h4, _, h5⟩ := dd'
  refine d_write I (by rw [hD]; exact True.intro) hs ⟨q, hq⟩ ⟨hl, hd, _, (rel.put k hc rv).keeps fun c ys ec => ?_, q, es, ep, hq, h2, h3, h4, h5⟩
  rw [upd_ne (ne_of ec hD (fun z => nomatch z))]
  exact ec
section
variable {X : Cx}
/-- {k: v for target in iter if ..}, keys tuples of these: D the new dict -/
def tDcT (wi : TI) (g : TG) (tt : TT) (tk tv : TE) (vs : List Nat) : TE := fun σ H Q => wi σ H fun J H1 => ∀ D, H1 D = none → ∃ W : Nat → Nat → Hp → Prop, (∃ m, W 0 m (upd H1 D (.dT []))) ∧ ∀ i m H, W i m H →
  (J.stop i H ∧ Q (.ref D) H) ∨ (J.go i H ∧ ∃ Nx : Hp → Prop, (∀ H', Nx H' → ∃ m', m' < m ∧ W (i + 1) m' H') ∧ ∀ x H', J.yld i H x H' → g x (wipe σ vs) H' fun σ2 H2 => wipe σ2 vs = wipe σ vs ∧ tt σ2 H2 fun b H3 =>
    if b = true then tk σ2 H3 fun y H4 => tv σ2 H4 fun z H5 => ∃ kvs k c, y = .ref c ∧ H5 c = some (.tup (k.map kV)) ∧ H5 D = some (.dT kvs) ∧ kvs.length < sizeLine ∧ Nx (upd H5 D (.dT (putK kvs k z))) else Nx H3)
theorem dcT_core {pins : List (Addr × Obj)} {s : Shared} {σ : L2.St} {H : Hp} {Q : VK} {kx vx tg iter : Expr} {ifs : List Expr} {scope : Scope} {own : List (Str × Nat)} {pos pos' : Pos} {wi : TI} {g : TG} {tt : TT} {tk tv : TE} {use : Option (Value → Sem Unit)} {Qf : Value → Shared → Prop}
    (hu : X.A.units + 1 < cLine) (hc : X.calm = true) (hN : X.N.Nodup) (I : Inv X pins σ H s) (hi : PI X tg iter wi) (ok : BlkOk X.N X.env.scope scope own)
    (hg : ∀ (s : Shared) (H : Hp) (C : Addr) (cl : List (Str × Addr)) (fp : List Addr), PG (X.blk s H scope (compEnvC scope cl C X.env) fp) tg g) (ht : ∀ (s : Shared) (H : Hp) (C : Addr) (cl : List (Str × Addr)) (fp : List Addr), PTs (X.blk s H scope (compEnvC scope cl C X.env) fp) ifs tt)
    (hk : ∀ (s : Shared) (H : Hp) (C : Addr) (cl : List (Str × Addr)) (fp : List Addr), PE (X.blk s H scope (compEnvC scope cl C X.env) fp) kx tk)
    (he : ∀ (s : Shared) (H : Hp) (C : Addr) (cl : List (Str × Addr)) (fp : List Addr), PE (X.blk s H scope (compEnvC scope cl C X.env) fp) vx tv) (hs : ∀ x, foldedSetIterable iter X.env x = pure x)
    (h : tDcT wi g tt tk tv (own.map (·.2)) σ H Q)
    (hRR : ∀ D C s' m H', Inv X pins σ H' s' → Q (.ref D) H' → s'.heap.Ns C m → FpOk X pins H' C → compPost (model X.prog X.w) X.A X.xe use Qf (.ref D) C (.ok .next) s') :
    wpAny (model X.prog X.w) X.A (comprehension (.DictComp kx vx [⟨tg, iter, ifs, 0⟩] scope pos) scope X.env pos' newDict false (eval iter X.env) use) Qf X.xe s := by
  have hfree : ∀ y ∈ scope.names, y.2 = .free → ∃ c, X.env.cells.lookup y.1 = some c := fun y hy e => by
    rcases ok.free y hy e with k | k
    · exact I.ok.has _ (.inl k)
    · exact I.ok.has _ (.inr k)
  refine wpAny_comprehension_free (use := use) rfl hs (closure_ok hfree) ok.kind (fun y hy e => by rw [ok.uniq y hy, e])
    (thn (hi.run pins s σ H _ I h) fun xv s1 hx => thn hx fun itv s2 h2 => ?_)
  obtain ⟨it, fp, tn, J, H2, e, I2, T, st2, f2, q⟩ := h2
  subst e
  refine wpAny_newObj_type (newEnv_comp ?_)
  generalize hD : s2.heap.objs.size = D
  have hDn : H2 D = none := I2.hok.fresh (Nat.le_of_eq hD)
  obtain ⟨W, ⟨m0, w0⟩, turn⟩ := q D hDn
  -- the new list
  generalize hs3 : ({ s2 with heap := s2.heap.push { cls := .type "dict", data := .dict #[] } } : Shared) = s3
  have I3 : Inv X pins σ (upd H2 D (.dT [])) s3 := by
    rw [← hs3]
    refine I2.laid (t' := s2.toks) (fun b o e => Heap.get?_push_of_some _ e) (Nat.le_of_eq hD) ?_
    rw [← hD]
    exact dt_empty s2.heap I2.big
  have h3 : s3.heap = s2.heap.push { cls := .type "dict", data := .dict #[] } := by rw [← hs3]
  have sz : ∀ b ∈ fp, b < s2.heap.objs.size := fun b hb => by
    obtain ⟨o, e, _⟩ := T.obj _ _ st2 b hb
    exact Heap.lt_size e
  have f3 : ∀ b ∈ fp, FpOk X pins (upd H2 D (.dT [])) b ∧ b < s3.heap.objs.size := fun b hb => by
    have hlt := sz b hb
    refine ⟨⟨?_, (f2 b hb).2⟩, by rw [h3, Heap.size_push]; exact Nat.lt_succ_of_lt hlt⟩
    rw [upd_ne (by rw [← hD]; exact Nat.ne_of_lt hlt)]
    exact (f2 b hb).1
  have st3 : tn 0 s3.heap := T.keep _ _ _ st2 fun b _ o e => by rw [h3]; exact Heap.get?_push_of_some _ e
  have I4 := block_start I3 ok hN f3
  have pg := hg s3 (upd H2 D (.dT [])) s3.heap.objs.size (cellsFrom (s3.heap.objs.size + 1) scope.names (cloFrom X.env.cells scope.names [])) fp
  have pt := ht s3 (upd H2 D (.dT [])) s3.heap.objs.size (cellsFrom (s3.heap.objs.size + 1) scope.names (cloFrom X.env.cells scope.names [])) fp
  have pk := hk s3 (upd H2 D (.dT [])) s3.heap.objs.size (cellsFrom (s3.heap.objs.size + 1) scope.names (cloFrom X.env.cells scope.names [])) fp
  have pe := he s3 (upd H2 D (.dT [])) s3.heap.objs.size (cellsFrom (s3.heap.objs.size + 1) scope.names (cloFrom X.env.cells scope.names [])) fp
  show codeAny _ _ (.compStart (.DictComp kx vx [⟨tg, iter, ifs, 0⟩] scope pos) 0 (.ref it) (.ref D) (compEnvC scope (cellsFrom (s3.heap.objs.size + 1) scope.names (cloFrom X.env.cells scope.names [])) s3.heap.objs.size X.env)) (compPost (model X.prog X.w) X.A X.xe use Qf (.ref D) s3.heap.objs.size) { s3 with heap := pushCells (s3.heap.push { cls := .type "dict", data := .dict #[] }) scope.names }
  have nfp : ∀ b ∈ fp, (upd H2 D (.dT [])) b = none := fun b hb => (f3 b hb).1.1
  generalize hce : compEnvC scope (cellsFrom (s3.heap.objs.size + 1) scope.names (cloFrom X.env.cells scope.names [])) s3.heap.objs.size X.env = ce at I4 pg pt pk pe ⊢
  have cL : ce.locals = s3.heap.objs.size := by subst hce; rfl
  generalize hH3 : upd H2 D (.dT []) = H3 at I3 I4 pg pt pk pe w0 nfp f3
  generalize hs4 : ({ s3 with heap := pushCells (s3.heap.push { cls := .type "dict", data := .dict #[] }) scope.names } : Shared) = s4 at I4 ⊢
  have st4 : tn 0 s4.heap := T.keep _ _ _ st3 fun b _ o e => by rw [← hs4]; exact pushCells_keeps _ _ _ _ (Heap.get?_push_of_some _ e)
  have stat : ∀ {σ' : L2.St} {H' : Hp} {s' : Shared}, Inv (X.blk s3 H3 scope ce fp) [] σ' H' s' → (∀ b ∈ fp, H' b = none) → ∀ b ∈ fp, FpOk (X.blk s3 H3 scope ce fp) [] H' b := fun {σ' H' s'} I' hn b hb =>
    ⟨hn b hb, (I'.ok.exf b hb).1, I'.ok.exfs b hb, .inl hb, fun x c e => (I'.ok.exf b hb).2 x c e, fun p hp => absurd (show p ∈ ([] : List (Addr × Obj)) ++ [] from hp) (by simp)⟩
  have loop : codeAny (model X.prog X.w) X.A (.compLoop (.DictComp kx vx [⟨tg, iter, ifs, 0⟩] scope pos) 0 (.ref it) (.ref D) ce) (compPost (model X.prog X.w) X.A X.xe use Qf (.ref D) s3.heap.objs.size) s4 := by
    refine compLoop_anyD (fun n s' => ∃ i H', Inv (X.blk s3 H3 scope ce fp) [] (wipe σ (own.map (·.2))) H' s' ∧ tn i s'.heap ∧ (∀ b ∈ fp, H' b = none) ∧ W i n H') ?_ m0 ⟨0, H3, I4, st4, nfp, w0⟩
    rintro n s5 ⟨i, H5, I5, st5, n5, w5⟩
    rcases turn i n H5 w5 with ⟨stop, qq⟩ | ⟨go, Nx, hNx, step⟩
    · have td := T.done (X.blk s3 H3 scope ce fp) rfl rfl rfl hc i [] s5 _ H5 (fun _ _ => False) I5 (stat I5 n5) st5 stop
      refine thnF td fun r s6 ⟨hr, I6⟩ => ?_
      subst hr
      -- back in the def's context
      have I7 : Inv X pins σ H5 s6 := I3.call' (ch := fp) I6.os I6.base I6.hok I6.bare fun b hb => ⟨(f3 b hb).1.2.2.2.1, (f3 b hb).1.2.1, (f3 b hb).1.2.2.2.2.1, (f3 b hb).1.2.2.2.2.2⟩
      have nC : H5 s3.heap.objs.size = none := by
        have z : H5 ce.locals = none := I6.free
        rw [cL] at z
        exact z
      obtain ⟨m, hn, _⟩ := I6.loc
      have hn : s6.heap.Ns ce.locals m := hn
      rw [cL] at hn
      exact hRR D s3.heap.objs.size s6 m H5 I7 qq hn (I3.fpOk (Nat.le_refl _) nC)
    · have ti := T.item (X.blk s3 H3 scope ce fp) rfl rfl rfl hc i [] s5 _ H5 (fun _ _ => False) I5 (stat I5 n5) st5 go
      refine thnF ti fun r s6 ⟨u, hr, h6⟩ => ?_
      subst hr
      refine thnF h6 fun _ s7 ⟨x, H7, I7, r7, y7, st7, n7⟩ => ?_
      have I7' := I7.pinned (stat I7 n7) (T.obj _ _ st7)
      refine thnF (pg.run _ s7 _ H7 x u _ I7' r7 (step x H7 y7)) fun _ s8 ⟨σ8, H8, I8, hw8, q8⟩ => ?_
      refine thnF (pt.run _ s8 σ8 H8 _ I8 q8) fun b s9 ⟨H9, I9, q9⟩ => ?_
      -- the turn's end
      have fin : ∀ {s' : Shared} {H' : Hp}, Inv (X.blk s3 H3 scope ce fp) ([] ++ pinsAt fp s7.heap) σ8 H' s' → Nx H' → ∃ m, m < n ∧ ∃ i H', Inv (X.blk s3 H3 scope ce fp) [] (wipe σ (own.map (·.2))) H' s' ∧ tn i s'.heap ∧ (∀ b ∈ fp, H' b = none) ∧ W i m H' := fun {s' H'} I' nx => by
        obtain ⟨m', hm, w'⟩ := hNx H' nx
        have pin' : ∀ b ∈ fp, ∀ o, s7.heap.get? b = some o → s'.heap.get? b = some o ∧ H' b = none := fun b hb o e =>
          let z := I'.pin (b, o) (List.mem_append_right _ (List.mem_append_right _ (mem_pinsAt hb e)))
          ⟨z.1, z.2.1⟩
        have hl : (wipe σ (own.map (·.2))).length = σ8.length := by rw [← hw8, wipe_length]
        refine ⟨m', hm, i + 1, H', (I'.unpinned (pins := [])).weak hl (fun j v e => ?_), T.keep _ _ _ st7 fun b hb o e => (pin' b hb o e).1, fun b hb => ?_, w'⟩
        · rw [← hw8] at e
          exact (wipe_some e).1
        · obtain ⟨o, e, _⟩ := T.obj _ _ st7 b hb
          exact (pin' b hb o e).2
      cases b with
      | false =>
        simp only [Bool.false_eq_true, if_false] at q9 ⊢
        exact fin I9 q9
      | true =>
        simp only [if_true] at q9 ⊢
        refine thnF (pk.run _ s9 σ8 H9 _ I9 q9) fun z s10 ⟨yk, H10, I10, r10, q10⟩ => ?_
        refine thnF (pe.run _ s10 σ8 H10 _ I10 q10) fun z2 s11 ⟨yv, H11, I11, r11, kvs, k, c, ek, hc11, hD11, hz11, nx⟩ => ?_
        subst ek
        exact d_dictSetT (X := X.blk s3 H3 scope ce fp) (show X.A.units < cLine by omega) I11 hD11 hc11 hz11 r10 r11 fun s12 I12 => fin I12 nx
  exact codeAny_compStart_dict loop (T.self X.A 0 _ _ _ st4 loop)
/-- as a value -/
theorem pe_dcT {kx vx tg iter : Expr} {ifs : List Expr} {scope : Scope} {own : List (Str × Nat)} {pos : Pos} {wi : TI} {g : TG} {tt : TT} {tk tv : TE} (hu : X.A.units + 1 < cLine) (hc : X.calm = true) (hN : X.N.Nodup) (hi : PI X tg iter wi) (ok : BlkOk X.N X.env.scope scope own)
    (hg : ∀ (s : Shared) (H : Hp) (C : Addr) (cl : List (Str × Addr)) (fp : List Addr), PG (X.blk s H scope (compEnvC scope cl C X.env) fp) tg g) (ht : ∀ (s : Shared) (H : Hp) (C : Addr) (cl : List (Str × Addr)) (fp : List Addr), PTs (X.blk s H scope (compEnvC scope cl C X.env) fp) ifs tt)
    (hk : ∀ (s : Shared) (H : Hp) (C : Addr) (cl : List (Str × Addr)) (fp : List Addr), PE (X.blk s H scope (compEnvC scope cl C X.env) fp) kx tk)
    (he : ∀ (s : Shared) (H : Hp) (C : Addr) (cl : List (Str × Addr)) (fp : List Addr), PE (X.blk s H scope (compEnvC scope cl C X.env) fp) vx tv) (hs : ∀ x, foldedSetIterable iter X.env x = pure x := by intro _; rfl) :
    PE X (.DictComp kx vx [⟨tg, iter, ifs, 0⟩] scope pos) (tDcT wi g tt tk tv (own.map (·.2))) := by
  refine ⟨fun pins s σ H Q I h => ?_⟩
  rw [arm_eval_DictComp]
  refine dcT_core hu hc hN I hi ok hg ht hk he hs h fun D C s' m H' I' q hn f => ⟨m, hn, fun h'' sb => ?_⟩
  obtain ⟨f0, f1, f2, f3, f4, f5⟩ := f
  exact ⟨.ref D, H', I'.turned (t' := s'.toks) (fun b o hb e => (sb.2 b hb).trans e) f0 f1 f3 f4 f5, rfl, q⟩
end
theorem i_dcT {wi : TI} {g : TG} {tt : TT} {tk tv : TE} {vs : List Nat} {σ : L2.St} {H : Hp} {Q : VK} (h : wi σ H fun J H1 => ∀ D, H1 D = none → ∃ W : Nat → Nat → Hp → Prop, (∃ m, W 0 m (upd H1 D (.dT []))) ∧ ∀ i m H, W i m H →
  (J.stop i H ∧ Q (.ref D) H) ∨ (J.go i H ∧ ∃ Nx : Hp → Prop, (∀ H', Nx H' → ∃ m', m' < m ∧ W (i + 1) m' H') ∧ ∀ x H', J.yld i H x H' → g x (wipe σ vs) H' fun σ2 H2 => wipe σ2 vs = wipe σ vs ∧ tt σ2 H2 fun b H3 =>
    if b = true then tk σ2 H3 fun y H4 => tv σ2 H4 fun z H5 => ∃ kvs k c, y = .ref c ∧ H5 c = some (.tup (k.map kV)) ∧ H5 D = some (.dT kvs) ∧ kvs.length < sizeLine ∧ Nx (upd H5 D (.dT (putK kvs k z))) else Nx H3)) : tDcT wi g tt tk tv vs σ H Q := h
theorem dcT_list {K : PySem.W.Frag} {a : Addr} {xs : List V} {g : TG} {tt : TT} {tk tv : TE} {vs : List Nat} {σ : L2.St} {H1 : Hp} {D : Addr} {Qd : Hp → Prop} (Pv : Nat → Hp → Prop) (h0 : Pv 0 (upd H1 D (.dT []))) (hl : ∀ i H, i ≤ xs.length → Pv i H → SqL K H a xs)
    (hs : ∀ i x H, xs[i]? = some x → Pv i H → g x (wipe σ vs) H fun σ2 H2 => wipe σ2 vs = wipe σ vs ∧ tt σ2 H2 fun b H3 =>
      if b = true then tk σ2 H3 fun y H4 => tv σ2 H4 fun z H5 => ∃ kvs k c, y = .ref c ∧ H5 c = some (.tup (k.map kV)) ∧ H5 D = some (.dT kvs) ∧ kvs.length < sizeLine ∧ Pv (i + 1) (upd H5 D (.dT (putK kvs k z))) else Pv (i + 1) H3) (hd : ∀ H, Pv xs.length H → Qd H) :
    ∃ W : Nat → Nat → Hp → Prop, (∃ m, W 0 m (upd H1 D (.dT []))) ∧ ∀ i m H, W i m H →
      ((Itl K a).stop i H ∧ Qd H) ∨ ((Itl K a).go i H ∧ ∃ Nx : Hp → Prop, (∀ H', Nx H' → ∃ m', m' < m ∧ W (i + 1) m' H') ∧ ∀ x H', (Itl K a).yld i H x H' → g x (wipe σ vs) H' fun σ2 H2 => wipe σ2 vs = wipe σ vs ∧ tt σ2 H2 fun b H3 =>
        if b = true then tk σ2 H3 fun y H4 => tv σ2 H4 fun z H5 => ∃ kvs k c, y = .ref c ∧ H5 c = some (.tup (k.map kV)) ∧ H5 D = some (.dT kvs) ∧ kvs.length < sizeLine ∧ Nx (upd H5 D (.dT (putK kvs k z))) else Nx H3) := by
  refine ⟨fun i m H => m = xs.length - i ∧ i ≤ xs.length ∧ Pv i H, ⟨xs.length, by simp, Nat.zero_le _, h0⟩, ?_⟩
  rintro i m H ⟨rfl, hi, p⟩
  have q := hl i H hi p
  by_cases hlt : i < xs.length
  · refine .inr ⟨⟨xs, xs[i], q, by simp [hlt]⟩, Pv (i + 1), fun H' p' => ⟨xs.length - (i + 1), by omega, rfl, hlt, p'⟩, fun x H' y => ?_⟩
    obtain ⟨e, y⟩ := y
    subst e
    exact hs i x _ (y xs q) p
  · have e : i = xs.length := by omega
    subst e
    exact .inl ⟨⟨xs, q, Nat.le_refl _⟩, hd H p⟩
/-- floors by cells: what P says of each -/
def FlK (P : Int → Int → Int → Prop) (B : Nat) (H : Hp) (kvs : List (List L2.Key × V)) : Prop := ∀ i k v, valV kvs (k2 i k) = some v → ∃ (l : Addr) (ns : List Int), v = .ref l ∧ H l = some (.lst (ns.map V.int)) ∧ ns.length ≤ B ∧ ∀ L ∈ ns, P i k L
theorem FlK.lk {P : Int → Int → Int → Prop} {B : Nat} {H H' : Hp} {kvs : List (List L2.Key × V)} (h : FlK P B H kvs) (e : Lk H H') : FlK P B H' kvs := fun i k v hv => by
  obtain ⟨l, ns, r1, r2, r3⟩ := h i k v hv
  exact ⟨l, ns, r1, e.lst r2, r3⟩
theorem FlK.put {P : Int → Int → Int → Prop} {B : Nat} {H : Hp} {kvs : List (List L2.Key × V)} (h : FlK P B H kvs) {i k : Int} {l : Addr} {ns : List Int} (r2 : H l = some (.lst (ns.map V.int))) (r3 : ns.length ≤ B) (r4 : ∀ L ∈ ns, P i k L) : FlK P B H (putK kvs (k2 i k) (.ref l)) := fun i' k' v hv => by
  rw [valV_put] at hv
  split at hv
  · rename_i e
    have e : i' = i ∧ k' = k := by simpa using e
    obtain ⟨rfl, rfl⟩ := e
    cases hv
    exact ⟨l, ns, rfl, r2, r3, r4⟩
  · exact h i' k' v hv
def sp_floors_of (K : PySem.W.Frag) : Sp := fun vs H Q _ => ∃ (s d c : Addr) (M : FpM.Me) (tl : Int) (C : Int → Int → List FpM.Sol) (ys : List V) (ps : List (Int × Int)), vs = [.ref s, .ref d, .ref c] ∧ SeAt K H s M tl ∧ CdAt M C H d ∧ H c = some (.lst ys) ∧ A2 (FrAt H) ys ps ∧ ps.length ≤ 24 ∧ (∀ p ∈ ps, 0 ≤ p.1 ∧ p.1 < M.columns ∧ 0 ≤ p.2 ∧ p.2 < M.rows) ∧
  ∀ (r : Addr) (kvs : List (List L2.Key × V)) H', H r = none → Same H H' → H' r = some (.dT kvs) → FlK (FpM.FloorOk M C) 200 H' kvs → (∀ p ∈ ps, ∃ v, valV kvs (k2 p.1 p.2) = some v) → kvs.length ≤ 24 → (∀ i k l, valV kvs (k2 i k) = some (.ref l) → H l = none) → Q (.ref r) H'
end
section
local macro_rules | `(tactic| wtm_at "go1") => `(tactic| first
  | with_reducible refine i_dcT ?_)
abbrev s_floors_of : Stmt := topS 5
abbrev N_floors_of : List Str := ["settings", "columns", "cells", "i", "k"]
theorem sc_floors_of : FnScope N_floors_of ["settings", "columns", "cells"] (defScope s_floors_of) := ⟨rfl, rfl, rfl, by decide +kernel, rfl, by decide +kernel, by decide +kernel⟩
theorem bd_floors_of : BindsOf ["settings", "columns", "cells"] "floors_of" "floors_of" s_floors_of := fun _ _ _ _ _ _ us hl => match us, hl with | [_, _, _], _ => rfl
theorem cal_floors_of {P : Program} {w : World} {K : PySem.W.Frag} {mg : Str → Option Value} {base : Heap} (T : Tx K mg) : Cal P w K mg base "floors_of" 4 ["settings", "columns", "cells"] (sp_floors_of K) := by
  refine T.floors_of.cal sc_floors_of bd_floors_of (fun vs H Q E h => ?_) (fun f cdv A outer s H vs Q E hr h => ?_)
  · obtain ⟨s, d, c, M, tl, C, ys, ps, rfl, hse, hcd, hc, a2, lp, rp, kk⟩ := h; rfl
  · have hu := hu_of hr
    obtain ⟨s, d, c, M, tl, C, ys, ps, rfl, hse, hcd, hc, a2, lp, rp, kk⟩ := h
    refine ⟨_, (pss_one (ps_ret (pe_dcT (own := [("i", 3), ("k", 4)]) hu rfl sc_floors_of.nd (pi_list (pv 2)) (blkOk_by (own := [("i", 3), ("k", 4)]) (N := N_floors_of) (sc := defScope (topS 5)) (by decide +kernel)) (fun _ _ _ _ _ => (g_tup K 2 rfl (pgs_cons (pg_name (i := 3) sc_floors_of.nd rfl (.inl rfl) (.inr rfl)) (pgs_cons (pg_name (i := 4) sc_floors_of.nd rfl (.inl rfl) (.inr rfl)) pgs_nil)) rfl rfl rfl)) (fun _ _ _ _ _ => pts_nil) (fun _ _ _ _ _ => (pe_tup (pa_cons (pv 3) (pa_cons (pv 4) pa_nil)))) (fun _ _ _ _ _ => (pe_callC (cal_levels_of (K := K) T) (hr.mono (by decide)) (by rfl) (pa_cons (pv 0) (pa_cons (pv 1) (pa_cons (pv 3) (pa_cons (pv 4) pa_nil))))))))), ?_⟩
    change (_ : TS) _ [some _, some _, some _, none, none] H
    have ly := a2.length
    wtm_at "go"
    intro D hD
    refine dcT_list (xs := ys) (fun j H' => Same H H' ∧ ∃ kvs, H' D = some (.dT kvs) ∧ kvs.length ≤ j ∧ FlK (FpM.FloorOk M C) 200 H' kvs ∧ (∀ i k l, valV kvs (k2 i k) = some (.ref l) → H l = none) ∧ ∀ n, n < j → ∀ p, ps[n]? = some p → ∃ v, valV kvs (k2 p.1 p.2) = some v)
      ⟨same_new hD, [], upd_same, Nat.le_refl _, fun i k v h => by simp [valV_nil] at h, fun i k v h => by simp [valV_nil] at h, fun n h => absurd h (by omega)⟩ (fun j H' _ h' => SqL.of (h'.1 _ _ hc)) (fun j x H2 hj h2' => ?_) (fun H2 h2' => ?_)
    · obtain ⟨s2, kvs, hD2, lk, fk, fr, nk⟩ := h2'
      obtain ⟨p, hp, q, rfl, hq⟩ := a2.get hj
      have hq2 := s2 _ _ hq
      have hi := (List.getElem?_eq_some_iff.mp hj).1
      have hr := rp p (List.mem_of_getElem? hp)
      change gTup _ _ _ _ [some _, some _, some _, none, none] _ _
      wtm_at "go"
      rename_i t ht
      have s3 := s2.trans (same_new (q := .tup [.int p.1, .int p.2]) ht)
      refine do_levels_of (hse.same s3) (hcd.same s3) hr fun r ns H4 nr s4 hr4 ln en => ?_
      have hD4 := s4 _ _ (upd_new ht hD2)
      have s04 := s3.trans s4
      refine ⟨kvs, k2 p.1 p.2, t, rfl, s4 _ _ upd_same, hD4, szt (by omega), same_mut hD s04, _, upd_same, Nat.le_trans (length_putK _ _ _) (by omega), ?_, fun i' k' l' h' => ?_, fun n hn p' hp' => ?_⟩
      · have l04 : Lk H2 H4 := (Lk.new ht).trans (Lk.of s4)
        exact ((fk.lk l04).put hr4 (by omega) en).lk (Lk.dT hD4)
      · rw [valV_put] at h'
        split at h'
        · cases h'; exact none_of s3 nr
        · exact fr _ _ _ h'
      · rw [valV_put]
        split
        · exact ⟨_, rfl⟩
        · rename_i ne
          refine nk n ?_ p' hp'
          refine Nat.lt_of_le_of_ne (by omega) fun z => ne ?_
          rw [z, hp] at hp'
          cases hp'
          rfl
    · obtain ⟨s2, kvs, hD2, lk, fk, fr, nk⟩ := h2'
      refine kk D kvs H2 hD s2 hD2 fk (fun p hp => ?_) (by omega) fr
      obtain ⟨n, hn, e⟩ := List.mem_iff_getElem.mp hp
      exact nk n (by omega) p (by rw [List.getElem?_eq_getElem hn, e])
theorem do_floors_of {K : PySem.W.Frag} {H : Hp} {Q : VK} {s d c : Addr} {M : FpM.Me} {tl : Int} {C : Int → Int → List FpM.Sol} {ys : List V} {ps : List (Int × Int)} (hse : SeAt K H s M tl) (hcd : CdAt M C H d) (hc : H c = some (.lst ys)) (a2 : A2 (FrAt H) ys ps) (lp : ps.length ≤ 24) (rp : ∀ p ∈ ps, 0 ≤ p.1 ∧ p.1 < M.columns ∧ 0 ≤ p.2 ∧ p.2 < M.rows)
    (kk : ∀ (r : Addr) (kvs : List (List L2.Key × V)) H', H r = none → Same H H' → H' r = some (.dT kvs) → FlK (FpM.FloorOk M C) 200 H' kvs → (∀ p ∈ ps, ∃ v, valV kvs (k2 p.1 p.2) = some v) → kvs.length ≤ 24 → (∀ i k l, valV kvs (k2 i k) = some (.ref l) → H l = none) → Q (.ref r) H') : sp_floors_of K [.ref s, .ref d, .ref c] H Q E0 := ⟨s, d, c, M, tl, C, ys, ps, rfl, hse, hcd, hc, a2, lp, rp, kk⟩
/-- a place, or None -/
def PlF (P : Int → Int → Int → Prop) (H : Hp) (v : V) (i k : Int) : Prop := v = .non ∨ ∃ q L, v = .ref q ∧ T3 H q i k L ∧ P i k L
theorem i_dget2 {td ty tx : TE} {σ : L2.St} {H : Hp} {Q : VK} (h : td σ H fun x H1 => ∃ a, x = .ref a ∧ IsD H1 a ∧ ty σ H1 fun y H2 => tx σ H2 fun z H3 => ∃ o, DGet H3 a y o ∧ Q (o.getD z) H3) : tDGet2 td ty tx σ H Q := h
def sp_partner (K : PySem.W.Frag) : Sp := fun vs H Q _ => ∃ (s d p : Addr) (M : FpM.Me) (tl : Int) (P : Int → Int → Int → Prop) (B : Nat) (kvs : List (List L2.Key × V)) (i k L di dk : Int), vs = [.ref s, .ref d, .ref p, .int di, .int dk] ∧ SeAt K H s M tl ∧ H d = some (.dT kvs) ∧ FlK P B H kvs ∧ T3 H p i k L ∧
  ∀ v H', Same H H' → PlF P H' v (i + di) (k + dk) → Q v H'
abbrev s_partner : Stmt := topS 6
abbrev N_partner : List Str := ["settings", "floors", "place", "di", "dk", "i", "k", "level", "other"]
theorem sc_partner : FnScope N_partner ["settings", "floors", "place", "di", "dk"] (defScope s_partner) := ⟨rfl, rfl, rfl, by decide +kernel, rfl, by decide +kernel, by decide +kernel⟩
theorem bd_partner : BindsOf ["settings", "floors", "place", "di", "dk"] "partner" "partner" s_partner := fun _ _ _ _ _ _ us hl => match us, hl with | [_, _, _, _, _], _ => rfl
theorem cal_partner {P : Program} {w : World} {K : PySem.W.Frag} {mg : Str → Option Value} {base : Heap} (T : Tx K mg) : Cal P w K mg base "partner" 1 ["settings", "floors", "place", "di", "dk"] (sp_partner K) := by
  refine T.partner.cal sc_partner bd_partner (fun vs H Q E h => ?_) (fun f cdv A outer s H vs Q E hr h => ?_)
  · obtain ⟨s, d, p, M, tl, P, B, kvs, i, k, L, di, dk, rfl, hse, hd, fk, hp, kk⟩ := h; rfl
  · have hu := hu_of hr
    obtain ⟨s, d, p, M, tl, P, B, kvs, i, k, L, di, dk, rfl, hse, hd, fk, hp, kk⟩ := h
    refine ⟨_, (pss_cons (ps_asg (pv 2) (pg_tup rfl (pgs_cons (pg_name (i := 5) sc_partner.nd rfl (.inl rfl)) (pgs_cons (pg_name (i := 6) sc_partner.nd rfl (.inl rfl)) (pgs_cons (pg_name (i := 7) sc_partner.nd rfl (.inl rfl)) pgs_nil)))))
      (pss_cons (ps_for PassesOwn.never rfl (pi_list (pe_dget2 hu (pv 1) (pe_tup (pa_cons (pe_op o_add (pv 5) (pv 3)) (pa_cons (pe_op o_add (pv 6) (pv 4)) pa_nil))) (pe_lst pa_nil) ⟨rfl, rfl, rfl, rfl⟩)) (pg_name (i := 8) sc_partner.nd rfl (.inl rfl)) (pss_one (ps_if (pt_cmpR o_le (pe_callB c_abs (by rfl) T.abs b_abs (pa_cons (pe_op o_sub (pv 8) (pv 7)) pa_nil)) (pe_fld (pv 0) rfl) (nomark _)) (pss_one (ps_ret (pe_tup (pa_cons (pe_op o_add (pv 5) (pv 3)) (pa_cons (pe_op o_add (pv 6) (pv 4)) (pa_cons (pv 8) pa_nil)))))) pss_nil)))
      (pss_one (ps_ret pe_non)))), ?_⟩
    change (_ : TS) _ [some _, some _, some _, some _, some _, none, none, none, none] H
    have ⟨⟨dx, h1, h2, sl, e1, e2⟩, mo⟩ := hse
    wtm_at "go"
    refine i_dget2 ?_
    wtm_at "go"
    refine ⟨d, rfl, .inr ⟨_, .inl hd⟩, ?_⟩
    wtm_at "go"
    rename_i q hq e he
    refine ⟨valV kvs (k2 (i + di) (k + dk)), DGet.t (upd_new he (upd_new hq hd)) (upd_new he upd_same), ?_⟩
    have s2 : Same H (upd (upd H q (.tup [.int (i + di), .int (k + dk)])) e (.lst [])) := by wtm_at "sm"
    obtain ⟨l, ns, hl, hn, en⟩ : ∃ (l : Addr) (ns : List Int), (valV kvs (k2 (i + di) (k + dk))).getD (.ref e) = .ref l ∧ (upd (upd H q (.tup [.int (i + di), .int (k + dk)])) e (.lst [])) l = some (.lst (ns.map V.int)) ∧ ∀ L ∈ ns, P (i + di) (k + dk) L := by
      cases hv : valV kvs (k2 (i + di) (k + dk)) with
      | none => exact ⟨e, [], rfl, upd_same, fun _ h => absurd h (by simp)⟩
      | some v =>
        obtain ⟨l, ns, rfl, r2, r3, r4⟩ := fk _ _ _ hv
        exact ⟨l, ns, rfl, s2 _ _ r2, r4⟩
    rw [hl]
    refine ⟨l, rfl, ⟨_, SqL.of hn⟩, ?_⟩
    refine for_list (xs := ns.map V.int) (fun j σ H' => (∃ y8, σ = [some (.ref s), some (.ref d), some (.ref p), some (.int di), some (.int dk), some (.int i), some (.int k), some (.int L), y8]) ∧ Same (upd (upd H q (.tup [.int (i + di), .int (k + dk)])) e (.lst [])) H') ⟨⟨_, rfl⟩, Same.refl _⟩ (fun j σ H' _ h' => SqL.of (h'.2 _ _ hn)) (fun j x σ H3 hj h3' => ?_) (fun σ H3 h3' => ?_)
    · obtain ⟨⟨y8, rfl⟩, s3⟩ := h3'
      obtain ⟨n, hn', rfl⟩ : ∃ n, ns[j]? = some n ∧ V.int n = x := by simpa using hj
      have e13 := s3 _ _ (s2 _ _ e1)
      wtm_at "go"
      · exact kk _ _ ((s2.trans s3).trans (by wtm_at "sm")) (.inr ⟨_, n, rfl, upd_same, en n (List.mem_of_getElem? hn')⟩)
      all_goals exact ⟨⟨_, rfl⟩, s3⟩
    · obtain ⟨⟨y8, rfl⟩, s3⟩ := h3'
      wtm_at "go"
      exact kk _ _ (s2.trans s3) (.inl rfl)
theorem do_partner {K : PySem.W.Frag} {H : Hp} {Q : VK} {s d p : Addr} {M : FpM.Me} {tl : Int} {P : Int → Int → Int → Prop} {B : Nat} {kvs : List (List L2.Key × V)} {i k L di dk : Int} (hse : SeAt K H s M tl) (hd : H d = some (.dT kvs)) (fk : FlK P B H kvs) (hp : T3 H p i k L)
    (kk : ∀ v H', Same H H' → PlF P H' v (i + di) (k + dk) → Q v H') : sp_partner K [.ref s, .ref d, .ref p, .int di, .int dk] H Q E0 := ⟨s, d, p, M, tl, P, B, kvs, i, k, L, di, dk, rfl, hse, hd, fk, hp, kk⟩
end
section
/-! ### plates -/
theorem szb {n : Nat} (h : n ≤ 10000000) : n < sizeLine := by rw [sizeLine_eq]; omega
theorem hu64 {k : Nat} {A : Around} (hr : Room k A) : A.units + 64 < cLine := by have := hr.un; omega
theorem i_while {c : TT} {tb : TS} {D : Ends} {σ : L2.St} {H : Hp} (h : ∃ W : Nat → L2.St → Hp → Prop, (∃ m, W m σ H) ∧ ∀ m σ H, W m σ H →
  c σ H fun b H1 => if b = true then ∃ N : L2.St → Hp → Prop, (∀ σ' H', N σ' H' → ∃ m', m' < m ∧ W m' σ' H') ∧ tb { D with nx := N, ct := N, bk := D.nx } σ H1 else D.nx σ H1) : tWhile c tb D σ H := h
theorem i_slT3 {K : PySem.W.Frag} {σ : L2.St} {H : Hp} {Q : VK} {te : TE} {tl th : TO} (h : te σ H fun x H1 => tl σ H1 fun l H2 => th σ H2 fun u H3 => rSlT K x l u H3 Q) : tSl (rSlT K) te tl th σ H Q := h
theorem i_cut2 {K : PySem.W.Frag} {H : Hp} {Q : VK} {a : Addr} {x y z : V} (s : H a = some (.tup [x, y, z])) (h : ∀ p, H p = none → Q (.ref p) (upd H p (.tup [x, y]))) : rSlT K (.ref a) none (some 2) H Q :=
  ⟨a, _, rfl, SqT.of s, by show ¬(HT.sIx 3 0 none = 0 ∧ HT.sIx 3 3 (some 2) = 3); decide, h⟩
theorem dp_int {K : PySem.W.Frag} {H : Hp} : ∀ (ns : List Int), DpAll K H (ns.map V.int) (ns.map PyData.int)
  | [] => .nil
  | _ :: ns => .cons (.int _) (dp_int ns)
theorem i_neP {K : PySem.W.Frag} {P : Int → Int → Int → Prop} {H : Hp} {Q : VK} {v w : V} {i k i' k' : Int} (hv : PlF P H v i k) (hw : ∃ q L, w = .ref q ∧ T3 H q i' k' L) (h : ∀ b, Q (.bl b) H) : rNeD K v w H Q := by
  obtain ⟨q', L', rfl, hw⟩ := hw
  rcases hv with rfl | ⟨q, L, rfl, hq, _⟩
  · exact ⟨.none, .tuple [.int i', .int k', .int L'], .non, .tup (SqT.of hw) (dp_int [i', k', L']), rfl, rfl, h _⟩
  · exact ⟨.tuple [.int i, .int k, .int L], .tuple [.int i', .int k', .int L'], .tup (SqT.of hq) (dp_int [i, k, L]), .tup (SqT.of hw) (dp_int [i', k', L']), rfl, rfl, h _⟩
/-- a place of a row -/
def PlN (P : Int → Int → Int → Prop) (H : Hp) (i k : Int) (n : Nat) (v : V) : Prop := ∃ q L, v = .ref q ∧ T3 H q (i + (n : Int)) k L ∧ P (i + (n : Int)) k L
def RowOk (P : Int → Int → Int → Prop) (H : Hp) (i k : Int) (ys : List V) : Prop := ∀ n v, ys[n]? = some v → PlN P H i k n v
theorem RowOk.tt {P : Int → Int → Int → Prop} {H H' : Hp} {i k : Int} {ys : List V} (h : RowOk P H i k ys) (t : Tk H H') : RowOk P H' i k ys := fun n v hv => by
  obtain ⟨q, L, e, r, p⟩ := h n v hv
  exact ⟨q, L, e, t _ _ r, p⟩
theorem RowOk.snoc {P : Int → Int → Int → Prop} {H : Hp} {i k : Int} {ys : List V} {v : V} (h : RowOk P H i k ys) (hv : PlN P H i k ys.length v) : RowOk P H i k (ys ++ [v]) := fun n u hu => by
  by_cases hn : n < ys.length
  · rw [List.getElem?_append_left hn] at hu
    exact h n u hu
  · rw [List.getElem?_append_right (by omega)] at hu
    have e0 : n - ys.length = 0 := by
      apply Classical.byContradiction
      intro z
      rw [List.getElem?_eq_none (by simp; omega)] at hu
      cases hu
    rw [e0] at hu
    have e1 : v = u := by simpa using hu
    have e2 : n = ys.length := by omega
    rw [← e1, e2]
    exact hv
theorem RowOk.nil {P : Int → Int → Int → Prop} {H : Hp} {i k : Int} : RowOk P H i k [] := fun n v h => by simp at h
theorem snoc_of' {α : Type} {l : List α} (h : 1 ≤ l.length) : ∃ M z, l = M ++ [z] := by
  have n : l ≠ [] := fun z => by rw [z] at h; simp at h
  exact ⟨l.dropLast, l.getLast n, (List.dropLast_concat_getLast n).symm⟩
abbrev Gd (P : Int → Int → Int → Prop) : Prop := ∀ i k L, P i k L → 0 ≤ i ∧ i < 6 ∧ 0 ≤ k ∧ k < 4
theorem RowOk.len {P : Int → Int → Int → Prop} {H : Hp} {i k : Int} {ys : List V} (h : RowOk P H i k ys) (g : Gd P) (hi : 0 ≤ i) : ys.length ≤ 6 := by
  rcases Nat.lt_or_ge 0 ys.length with z | z
  · obtain ⟨q, L, _, _, p⟩ := h (ys.length - 1) _ (List.getElem?_eq_getElem (by omega))
    have := g _ _ _ p
    omega
  · omega
end
section
def sp_grown_right (K : PySem.W.Frag) : Sp := fun vs H Q _ => ∃ (s d u c p : Addr) (M : FpM.Me) (tl : Int) (P : Int → Int → Int → Prop) (B : Nat) (kvs us cs : List (List L2.Key × V)) (i k L : Int), vs = [.ref s, .ref d, .ref u, .ref c, .ref p] ∧ SeAt K H s M tl ∧ H d = some (.dT kvs) ∧ FlK P B H kvs ∧ H u = some (.dT us) ∧ H c = some (.dT cs) ∧ T3 H p i k L ∧ P i k L ∧ Gd P ∧
  ∀ (r : Addr) (ys : List V) H', Same H H' → H' r = some (.lst ys) → RowOk P H' i k ys → 1 ≤ ys.length → Q (.ref r) H'
abbrev s_grown_right : Stmt := topS 8
abbrev N_grown_right : List Str := ["settings", "floors", "used", "cells", "place", "row", "other"]
theorem sc_grown_right : FnScope N_grown_right ["settings", "floors", "used", "cells", "place"] (defScope s_grown_right) := ⟨rfl, rfl, rfl, by decide +kernel, rfl, by decide +kernel, by decide +kernel⟩
theorem bd_grown_right : BindsOf ["settings", "floors", "used", "cells", "place"] "grown_right" "grown_right" s_grown_right := fun _ _ _ _ _ _ us hl => match us, hl with | [_, _, _, _, _], _ => rfl
theorem cal_grown_right {P : Program} {w : World} {K : PySem.W.Frag} {mg : Str → Option Value} {base : Heap} (T : Tx K mg) : Cal P w K mg base "grown_right" 2 ["settings", "floors", "used", "cells", "place"] (sp_grown_right K) := by
  refine T.grown_right.cal sc_grown_right bd_grown_right (fun vs H Q E h => ?_) (fun f cdv A outer s H vs Q E hr h => ?_)
  · obtain ⟨s, d, u, c, p, M, tl, P, B, kvs, us, cs, i, k, L, rfl, hse, hd, fk, hu1, hc1, hp, pp, gd, kk⟩ := h; rfl
  · have hu := hu_of hr
    obtain ⟨s, d, u, c, p, M, tl, P, B, kvs, us, cs, i, k, L, rfl, hse, hd, fk, hu1, hc1, hp, pp, gd, kk⟩ := h
    refine ⟨_, (pss_cons (ps_set (i := 5) sc_grown_right.nd rfl (.inl rfl) (pe_lst (pa_cons (pv 4) pa_nil)))
      (pss_one (ps_while PassesOwn.never (pt_val pe_bl) (pss_cons (ps_set (i := 6) sc_grown_right.nd rfl (.inl rfl) (pe_callC (cal_partner (K := K) T) (hr.mono (by decide)) (by rfl) (pa_cons (pv 0) (pa_cons (pv 1) (pa_cons (pe_ix (x_list K) (pv 5) (pe_un u_neg pe_int) (fun _ _ => rfl)) (pa_cons pe_int (pa_cons pe_int pa_nil)))))))
      (pss_cons (ps_if (PW.pt (pw_or (pt_cmpR op_isN1 (pv 6) pe_non (nomark _)) (pw_or (pt_cmp (pc_din hu (pv 6) (pv 2)) rfl) (pw_or1 (pt_cmp (pc_dnotin hu (pe_slice sl_tup (pv 6) po_none (po_some pe_int)) (pv 3)) rfl))))) (pss_one (ps_ret (pv 5))) pss_nil)
      (pss_one (ps_expr (pe_bm PySem.F.plainAttrs_list PySem.F.slot_list_append PySem.F.type_list_append mt_append (pv 5) (pa_cons (pv 6) pa_nil))))))))), ?_⟩
    change (_ : TS) _ [some _, some _, some _, some _, some _, none, none] H
    wtm_at "go"
    rename_i R hR
    have gi := gd _ _ _ pp
    refine i_while ⟨fun m σ H' => (∃ y6, σ = [some (.ref s), some (.ref d), some (.ref u), some (.ref c), some (.ref p), some (.ref R), y6]) ∧ Same H H' ∧ ∃ ys : List V, H' R = some (.lst ys) ∧ RowOk P H' i k ys ∧ 1 ≤ ys.length ∧ m = 7 - ys.length, ⟨_, ⟨_, rfl⟩, same_new hR, _, upd_same, ?_, Nat.le_refl _, rfl⟩, fun m σ H2 h2 => ?_⟩
    · refine RowOk.snoc (ys := []) .nil ⟨p, L, rfl, ?_, ?_⟩
      · have : T3 (upd H R (.lst [.ref p])) p i k L := upd_new hR hp
        simpa using this
      · simpa using pp
    · obtain ⟨⟨y6, rfl⟩, s2, ys, hR2, rk, l1, hm⟩ := h2
      have l6 := rk.len gd gi.1
      obtain ⟨ys0, v, rfl⟩ := snoc_of' l1
      obtain ⟨q, L', rfl, hq, pq⟩ := rk ys0.length v (by simp)
      wtm_at "go"
      refine ⟨_, fun σ' H' z => z, ?_⟩
      wtm_at "go"
      refine i_lastL hR2 ?_
      wtm_at "go"
      refine do_partner (hse.same s2) (s2 _ _ hd) (fk.lk (Lk.of s2)) hq fun v H3 s3 hv => ?_
      have hR3 := s3 _ _ hR2
      have s03 := s2.trans s3
      have ret : ∀ H', Same H3 H' → Q (.ref R) H' := fun H' s' => kk _ _ _ (s03.trans s') (s' _ _ hR3) (rk.tt (Tk.of (s3.trans s'))) l1
      rcases hv with rfl | ⟨q', L2', rfl, hq', pq'⟩
      · wtm_at "go"
        exact ret _ (Same.refl _)
      · wtm_at "go"
        refine i_hasT (k := k3 _ _ _) (s03 _ _ hu1) hq' ?_
        wtm_at "go"
        · exact ret _ (Same.refl _)
        · refine i_slT3 ?_
          wtm_at "go"
          refine i_nopart ?_
          refine i_part ?_
          wtm_at "go"
          refine ⟨2, rfl, ?_⟩
          refine i_cut2 hq' fun t ht => ?_
          wtm_at "go"
          refine i_hasT (k := k2 _ _) (upd_new ht (s03 _ _ hc1)) upd_same ?_
          wtm_at "go"
          · exact ret _ (same_new ht)
          · have ll : (ys0 ++ [V.ref q]).length ≤ 1000 := by omega
            have hR4 := upd_new (q := .tup [.int (i + (ys0.length : Int) + 1), .int (k + 0)]) ht hR3
            wtm_at "go"
            refine ⟨7 - ((ys0 ++ [V.ref q]) ++ [V.ref q']).length, by simp at hm l6 ⊢; omega, ⟨_, rfl⟩, same_mut hR (s03.trans (same_new ht)), _, upd_same, ?_, by simp, rfl⟩
            refine (rk.tt ((Tk.of (s3.trans (same_new ht))).trans (Tk.lst hR4))).snoc ⟨q', L2', rfl, upd_tup hR4 (upd_new ht ?_), ?_⟩
            · have e1 : i + ((ys0 ++ [V.ref q]).length : Int) = i + (ys0.length : Int) + 1 := by simp; omega
              rw [e1]
              have e2 : k + 0 = k := by omega
              rw [e2] at hq'
              exact hq'
            · have e1 : i + ((ys0 ++ [V.ref q]).length : Int) = i + (ys0.length : Int) + 1 := by simp; omega
              rw [e1]
              have e2 : k + 0 = k := by omega
              rw [e2] at pq'
              exact pq'
theorem do_grown_right {K : PySem.W.Frag} {H : Hp} {Q : VK} {s d u c p : Addr} {M : FpM.Me} {tl : Int} {P : Int → Int → Int → Prop} {B : Nat} {kvs us cs : List (List L2.Key × V)} {i k L : Int} (hse : SeAt K H s M tl) (hd : H d = some (.dT kvs)) (fk : FlK P B H kvs) (hu1 : H u = some (.dT us)) (hc1 : H c = some (.dT cs)) (hp : T3 H p i k L) (pp : P i k L) (gd : Gd P)
    (kk : ∀ (r : Addr) (ys : List V) H', Same H H' → H' r = some (.lst ys) → RowOk P H' i k ys → 1 ≤ ys.length → Q (.ref r) H') : sp_grown_right K [.ref s, .ref d, .ref u, .ref c, .ref p] H Q E0 := ⟨s, d, u, c, p, M, tl, P, B, kvs, us, cs, i, k, L, rfl, hse, hd, fk, hu1, hc1, hp, pp, gd, kk⟩
def sp_row_below (K : PySem.W.Frag) : Sp := fun vs H Q _ => ∃ (s d u c r : Addr) (M : FpM.Me) (tl : Int) (P : Int → Int → Int → Prop) (B : Nat) (kvs us cs : List (List L2.Key × V)) (i k : Int) (ys : List V), vs = [.ref s, .ref d, .ref u, .ref c, .ref r] ∧ SeAt K H s M tl ∧ H d = some (.dT kvs) ∧ FlK P B H kvs ∧ H u = some (.dT us) ∧ H c = some (.dT cs) ∧ H r = some (.lst ys) ∧ RowOk P H i k ys ∧ Gd P ∧ ys.length ≤ 6 ∧
  ∀ v H', Same H H' → (v = .non ∨ ∃ (l : Addr) (zs : List V), v = .ref l ∧ H' l = some (.lst zs) ∧ RowOk P H' i (k + 1) zs ∧ zs.length = ys.length) → Q v H'
abbrev s_row_below : Stmt := topS 9
abbrev N_row_below : List Str := ["settings", "floors", "used", "cells", "row", "found", "place", "other"]
theorem sc_row_below : FnScope N_row_below ["settings", "floors", "used", "cells", "row"] (defScope s_row_below) := ⟨rfl, rfl, rfl, by decide +kernel, rfl, by decide +kernel, by decide +kernel⟩
theorem bd_row_below : BindsOf ["settings", "floors", "used", "cells", "row"] "row_below" "row_below" s_row_below := fun _ _ _ _ _ _ us hl => match us, hl with | [_, _, _, _, _], _ => rfl
theorem cal_row_below {P : Program} {w : World} {K : PySem.W.Frag} {mg : Str → Option Value} {base : Heap} (T : Tx K mg) : Cal P w K mg base "row_below" 2 ["settings", "floors", "used", "cells", "row"] (sp_row_below K) := by
  refine T.row_below.cal sc_row_below bd_row_below (fun vs H Q E h => ?_) (fun f cdv A outer s H vs Q E hr h => ?_)
  · obtain ⟨s, d, u, c, r, M, tl, P, B, kvs, us, cs, i, k, ys, rfl, hse, hd, fk, hu1, hc1, hr1, rk, gd, ly, kk⟩ := h; rfl
  · have hu := hu_of hr
    obtain ⟨s, d, u, c, r, M, tl, P, B, kvs, us, cs, i, k, ys, rfl, hse, hd, fk, hu1, hc1, hr1, rk, gd, ly, kk⟩ := h
    refine ⟨_, (pss_cons (ps_set (i := 5) sc_row_below.nd rfl (.inl rfl) (pe_lst pa_nil))
      (pss_cons (ps_for PassesOwn.never rfl (pi_list (pv 4)) (pg_name (i := 6) sc_row_below.nd rfl (.inl rfl)) (pss_cons (ps_set (i := 7) sc_row_below.nd rfl (.inl rfl) (pe_callC (cal_partner (K := K) T) (hr.mono (by decide)) (by rfl) (pa_cons (pv 0) (pa_cons (pv 1) (pa_cons (pv 6) (pa_cons pe_int (pa_cons pe_int pa_nil)))))))
      (pss_cons (ps_if (PW.pt (pw_or (pt_cmpR op_isN1 (pv 7) pe_non (nomark _)) (pw_or (pt_cmp (pc_din hu (pv 7) (pv 2)) rfl) (pw_or1 (pt_cmp (pc_dnotin hu (pe_slice sl_tup (pv 7) po_none (po_some pe_int)) (pv 3)) rfl))))) (pss_one (ps_ret pe_non)) pss_nil)
      (pss_cons (ps_if (PW.pt (pw_and (pt_tr (pv 5)) (pw_and1 (pt_cmpR (op_neD (hu64 hr)) (pe_callC (cal_partner (K := K) T) (hr.mono (by decide)) (by rfl) (pa_cons (pv 0) (pa_cons (pv 1) (pa_cons (pe_ix (x_list K) (pv 5) (pe_un u_neg pe_int) (fun _ _ => rfl)) (pa_cons pe_int (pa_cons pe_int pa_nil)))))) (pv 7) (nomark _))))) (pss_one (ps_ret pe_non)) pss_nil)
      (pss_one (ps_expr (pe_bm PySem.F.plainAttrs_list PySem.F.slot_list_append PySem.F.type_list_append mt_append (pv 5) (pa_cons (pv 7) pa_nil))))))))
      (pss_one (ps_ret (pv 5))))), ?_⟩
    change (_ : TS) _ [some _, some _, some _, some _, some _, none, none, none] H
    wtm_at "go"
    rename_i F hF
    refine for_list (xs := ys) (fun n σ H' => (∃ y6 y7, σ = [some (.ref s), some (.ref d), some (.ref u), some (.ref c), some (.ref r), some (.ref F), y6, y7]) ∧ Same H H' ∧ ∃ zs : List V, H' F = some (.lst zs) ∧ RowOk P H' i (k + 1) zs ∧ zs.length = n)
      ⟨⟨_, _, rfl⟩, same_new hF, [], upd_same, .nil, rfl⟩ (fun n σ H' _ h' => SqL.of (h'.2.1 _ _ hr1)) (fun n x σ H2 hx h2 => ?_) (fun σ H2 h2 => ?_)
    · obtain ⟨⟨y6, y7, rfl⟩, s2, zs, hF2, rz, lz⟩ := h2
      have hn := (List.getElem?_eq_some_iff.mp hx).1
      obtain ⟨q, L, rfl, hq, pq⟩ := rk n x hx
      wtm_at "go"
      refine do_partner (hse.same s2) (s2 _ _ hd) (fk.lk (Lk.of s2)) (s2 _ _ hq) fun v H3 s3 hv => ?_
      have hF3 := s3 _ _ hF2
      have s03 := s2.trans s3
      rcases hv with rfl | ⟨q', L2', rfl, hq', pq'⟩
      · wtm_at "go"
        exact kk _ _ s03 (.inl rfl)
      · wtm_at "go"
        refine i_hasT (k := k3 _ _ _) (s03 _ _ hu1) hq' ?_
        wtm_at "go"
        · exact kk _ _ s03 (.inl rfl)
        · refine i_slT3 ?_
          wtm_at "go"
          refine i_nopart ?_
          refine i_part ?_
          wtm_at "go"
          refine ⟨2, rfl, ?_⟩
          refine i_cut2 hq' fun t ht => ?_
          wtm_at "go"
          refine i_hasT (k := k2 _ _) (upd_new ht (s03 _ _ hc1)) upd_same ?_
          have s4 : Same H (upd H3 t (.tup [.int (i + (n : Int) + 0), .int (k + 1)])) := s03.trans (same_new ht)
          wtm_at "go"
          · exact kk _ _ s4 (.inl rfl)
          · have hF4 := upd_new (q := .tup [.int (i + (n : Int) + 0), .int (k + 1)]) ht hF3
            have rz4 : RowOk P (upd H3 t (.tup [.int (i + (n : Int) + 0), .int (k + 1)])) i (k + 1) zs := rz.tt ((Tk.of s3).trans (Tk.new ht))
            have hq4 := upd_new (q := .tup [.int (i + (n : Int) + 0), .int (k + 1)]) ht hq'
            generalize upd H3 t (.tup [.int (i + (n : Int) + 0), .int (k + 1)]) = H4 at s4 hF4 rz4 hq4
            have lz1 : zs.length ≤ 1000 := by omega
            have e0 : i + (n : Int) + 0 = i + (n : Int) := by omega
            rw [e0] at hq4 pq'
            have fin : ∀ H5, Same H4 H5 → (∃ y6 y7, [some (V.ref s), some (.ref d), some (.ref u), some (.ref c), some (.ref r), some (.ref F), some (.ref q), some (.ref q')] = [some (V.ref s), some (.ref d), some (.ref u), some (.ref c), some (.ref r), some (.ref F), y6, y7]) ∧ Same H (upd H5 F (.lst (zs ++ [.ref q']))) ∧
                ∃ zs' : List V, (upd H5 F (.lst (zs ++ [.ref q']))) F = some (.lst zs') ∧ RowOk P (upd H5 F (.lst (zs ++ [.ref q']))) i (k + 1) zs' ∧ zs'.length = n + 1 := fun H5 s5 => by
              have hF5 := s5 _ _ hF4
              refine ⟨⟨_, _, rfl⟩, same_mut hF (s4.trans s5), _, upd_same, ?_, by simp; omega⟩
              refine (rz4.tt ((Tk.of s5).trans (Tk.lst hF5))).snoc ⟨q', L2', rfl, ?_, ?_⟩
              · rw [lz]; exact upd_tup hF5 (s5 _ _ hq4)
              · rw [lz]; exact pq'
            refine i_truE ?_
            wtm_at "go"
            refine ⟨_, .inl ⟨_, SqL.of hF4, rfl⟩, ?_⟩
            rcases Nat.eq_zero_or_pos zs.length with hz0 | hz1
            · obtain rfl : zs = [] := List.eq_nil_of_length_eq_zero hz0
              refine i_bf ?_
              wtm_at "go"
              exact fin _ (Same.refl _)
            · obtain ⟨zs0, w', rfl⟩ := snoc_of' hz1
              obtain ⟨q5, L5, rfl, hq5, pq5⟩ := rz4 zs0.length w' (by simp)
              rw [show (!(zs0 ++ [V.ref q5]).isEmpty) = true by simp]
              refine i_bt ?_
              wtm_at "go"
              refine i_lastL hF4 ?_
              wtm_at "go"
              refine do_partner (hse.same s4) (s4 _ _ hd) (fk.lk (Lk.of s4)) hq5 fun v6 H6 s6 hv6 => ?_
              wtm_at "go"
              refine i_neP hv6 ⟨q', L2', rfl, s6 _ _ hq4⟩ fun b => ?_
              have hF6 := s6 _ _ hF4
              wtm_at "go"
              · exact kk _ _ (s4.trans s6) (.inl rfl)
              · exact fin _ s6
    · obtain ⟨⟨y6, y7, rfl⟩, s2, zs, hF2, rz, lz⟩ := h2
      wtm_at "go"
      exact kk _ _ s2 (.inr ⟨F, zs, rfl, hF2, rz, lz⟩)
theorem do_row_below {K : PySem.W.Frag} {H : Hp} {Q : VK} {s d u c r : Addr} {M : FpM.Me} {tl : Int} {P : Int → Int → Int → Prop} {B : Nat} {kvs us cs : List (List L2.Key × V)} {i k : Int} {ys : List V} (hse : SeAt K H s M tl) (hd : H d = some (.dT kvs)) (fk : FlK P B H kvs) (hu1 : H u = some (.dT us)) (hc1 : H c = some (.dT cs)) (hr1 : H r = some (.lst ys)) (rk : RowOk P H i k ys) (gd : Gd P) (ly : ys.length ≤ 6)
    (kk : ∀ v H', Same H H' → (v = .non ∨ ∃ (l : Addr) (zs : List V), v = .ref l ∧ H' l = some (.lst zs) ∧ RowOk P H' i (k + 1) zs ∧ zs.length = ys.length) → Q v H') : sp_row_below K [.ref s, .ref d, .ref u, .ref c, .ref r] H Q E0 := ⟨s, d, u, c, r, M, tl, P, B, kvs, us, cs, i, k, ys, rfl, hse, hd, fk, hu1, hc1, hr1, rk, gd, ly, kk⟩
/-- the rows of a plate -/
structure RowsOk (P : Int → Int → Int → Prop) (H : Hp) (i k : Int) (w : Nat) (zs : List V) : Prop where
  row : ∀ (n : Nat) (v : V), zs[n]? = some v → ∃ (r : Addr) (ys : List V), v = .ref r ∧ H r = some (.lst ys) ∧ ys.length = w ∧ RowOk P H i (k + (n : Int)) ys
  w0 : 1 ≤ w
theorem RowsOk.same {P : Int → Int → Int → Prop} {H H' : Hp} {i k : Int} {w : Nat} {zs : List V} (h : RowsOk P H i k w zs) (s : Lk H H') : RowsOk P H' i k w zs := ⟨fun n v hv => by
  obtain ⟨r, ys, e1, e2, e3, e4⟩ := h.row n v hv
  exact ⟨r, ys, e1, s.lst e2, e3, e4.tt s.tk⟩, h.w0⟩
theorem RowsOk.len {P : Int → Int → Int → Prop} {H : Hp} {i k : Int} {w : Nat} {zs : List V} (h : RowsOk P H i k w zs) (g : Gd P) (hi : 0 ≤ i ∧ 0 ≤ k) : zs.length ≤ 4 ∧ (1 ≤ zs.length → w ≤ 6) := by
  rcases Nat.lt_or_ge 0 zs.length with z | z
  · obtain ⟨r, ys, _, _, e3, e4⟩ := h.row (zs.length - 1) _ (List.getElem?_eq_getElem (by omega))
    have l6 := e4.len g hi.1
    obtain ⟨q, L, _, _, p⟩ := e4 0 _ (List.getElem?_eq_getElem (by have := h.w0; omega))
    have := g _ _ _ p
    omega
  · omega
theorem get_snoc {α : Type} {l : List α} {a b : α} {n : Nat} (h : (l ++ [a])[n]? = some b) : l[n]? = some b ∨ (n = l.length ∧ a = b) := by
  by_cases hn : n < l.length
  · rw [List.getElem?_append_left hn] at h
    exact .inl h
  · rw [List.getElem?_append_right (by omega)] at h
    have e0 : n - l.length = 0 := by
      apply Classical.byContradiction
      intro z
      rw [List.getElem?_eq_none (by simp; omega)] at h
      cases h
    rw [e0] at h
    exact .inr ⟨by omega, by simpa using h⟩
/-- all but the list at R stays -/
theorem RowsOk.snoc {P : Int → Int → Int → Prop} {H : Hp} {i k : Int} {w : Nat} {zs : List V} {r : Addr} {ys : List V} (h : RowsOk P H i k w zs) (e : H r = some (.lst ys)) (hl : ys.length = w) (rk : RowOk P H i (k + (zs.length : Int)) ys) : RowsOk P H i k w (zs ++ [.ref r]) := ⟨fun n v hv => by
  rcases get_snoc hv with hv | ⟨rfl, rfl⟩
  · exact h.row n v hv
  · exact ⟨r, ys, rfl, e, hl, rk⟩, h.w0⟩
/-- R is none of the rows -/
theorem RowsOk.at {P : Int → Int → Int → Prop} {H : Hp} {i k : Int} {w : Nat} {zs xs : List V} {R : Addr} {o : HO} (h : RowsOk P H i k w zs) (hR : H R = some (.lst xs)) (nR : ∀ (n : Nat) (v : V), zs[n]? = some v → v ≠ .ref R) : RowsOk P (upd H R o) i k w zs := ⟨fun n v hv => by
  obtain ⟨r, ys, e1, e2, e3, e4⟩ := h.row n v hv
  have n0 := nR n v hv
  refine ⟨r, ys, e1, ?_, e3, e4.tt (Tk.lst hR)⟩
  rw [upd_ne (fun z => n0 (by rw [e1, z]))]
  exact e2, h.w0⟩
theorem RowsOk.ne {P : Int → Int → Int → Prop} {H : Hp} {i k : Int} {w : Nat} {zs xs u : List V} {R r0 : Addr} (h : RowsOk P H i k w zs) (hR : H R = some (.lst xs)) (hx : xs[0]? = some (.ref r0)) (h0 : H r0 = some (.lst u)) : ∀ (n : Nat) (v : V), zs[n]? = some v → v ≠ .ref R := fun n v hv z => by
  obtain ⟨r, ys, e1, e2, e3, e4⟩ := h.row n v hv
  rw [e1] at z
  cases z
  rw [hR] at e2
  cases e2
  obtain ⟨q, L, e5, e6, _⟩ := e4 0 _ hx
  cases e5
  have e6 : H r0 = some (.tup _) := e6
  rw [h0] at e6
  cases e6
theorem RowsOk.first {P : Int → Int → Int → Prop} {H : Hp} {i k : Int} {w : Nat} {zs : List V} (h : RowsOk P H i k w zs) (hz : 1 ≤ zs.length) : ∃ r0 u, zs[0]? = some (.ref r0) ∧ H r0 = some (.lst u) := by
  obtain ⟨r, ys, e1, e2, _⟩ := h.row 0 _ (List.getElem?_eq_getElem (by omega))
  exact ⟨r, ys, by rw [List.getElem?_eq_getElem (by omega), e1], e2⟩
def sp_plate_at (K : PySem.W.Frag) : Sp := fun vs H Q _ => ∃ (s d u c p : Addr) (M : FpM.Me) (tl : Int) (P : Int → Int → Int → Prop) (B : Nat) (kvs us cs : List (List L2.Key × V)) (i k L : Int), vs = [.ref s, .ref d, .ref u, .ref c, .ref p] ∧ SeAt K H s M tl ∧ H d = some (.dT kvs) ∧ FlK P B H kvs ∧ H u = some (.dT us) ∧ H c = some (.dT cs) ∧ T3 H p i k L ∧ P i k L ∧ Gd P ∧
  ∀ (r : Addr) (w : Nat) (zs : List V) H', Same H H' → H' r = some (.lst zs) → RowsOk P H' i k w zs → 1 ≤ zs.length → Q (.ref r) H'
abbrev s_plate_at : Stmt := topS 10
abbrev N_plate_at : List Str := ["settings", "floors", "used", "cells", "place", "rows", "below"]
theorem sc_plate_at : FnScope N_plate_at ["settings", "floors", "used", "cells", "place"] (defScope s_plate_at) := ⟨rfl, rfl, rfl, by decide +kernel, rfl, by decide +kernel, by decide +kernel⟩
theorem bd_plate_at : BindsOf ["settings", "floors", "used", "cells", "place"] "plate_at" "plate_at" s_plate_at := fun _ _ _ _ _ _ us hl => match us, hl with | [_, _, _, _, _], _ => rfl
theorem cal_plate_at {P : Program} {w : World} {K : PySem.W.Frag} {mg : Str → Option Value} {base : Heap} (T : Tx K mg) : Cal P w K mg base "plate_at" 3 ["settings", "floors", "used", "cells", "place"] (sp_plate_at K) := by
  refine T.plate_at.cal sc_plate_at bd_plate_at (fun vs H Q E h => ?_) (fun f cdv A outer s H vs Q E hr h => ?_)
  · obtain ⟨s, d, u, c, p, M, tl, P, B, kvs, us, cs, i, k, L, rfl, hse, hd, fk, hu1, hc1, hp, pp, gd, kk⟩ := h; rfl
  · have hu := hu_of hr
    obtain ⟨s, d, u, c, p, M, tl, P, B, kvs, us, cs, i, k, L, rfl, hse, hd, fk, hu1, hc1, hp, pp, gd, kk⟩ := h
    refine ⟨_, (pss_cons (ps_set (i := 5) sc_plate_at.nd rfl (.inl rfl) (pe_lst (pa_cons (pe_callC (cal_grown_right (K := K) T) (hr.mono (by decide)) (by rfl) (pa_cons (pv 0) (pa_cons (pv 1) (pa_cons (pv 2) (pa_cons (pv 3) (pa_cons (pv 4) pa_nil)))))) pa_nil)))
      (pss_one (ps_while PassesOwn.never (pt_val pe_bl) (pss_cons (ps_set (i := 6) sc_plate_at.nd rfl (.inl rfl) (pe_callC (cal_row_below (K := K) T) (hr.mono (by decide)) (by rfl) (pa_cons (pv 0) (pa_cons (pv 1) (pa_cons (pv 2) (pa_cons (pv 3) (pa_cons (pe_ix (x_list K) (pv 5) (pe_un u_neg pe_int) (fun _ _ => rfl)) pa_nil)))))))
      (pss_cons (ps_if (pt_cmpR op_isN1 (pv 6) pe_non (nomark _)) (pss_one (ps_ret (pv 5))) pss_nil)
      (pss_one (ps_expr (pe_bm PySem.F.plainAttrs_list PySem.F.slot_list_append PySem.F.type_list_append mt_append (pv 5) (pa_cons (pv 6) pa_nil))))))))), ?_⟩
    change (_ : TS) _ [some _, some _, some _, some _, some _, none, none] H
    have gi := gd _ _ _ pp
    wtm_at "go"
    refine do_grown_right hse hd fk hu1 hc1 hp pp gd fun r0 ys0 H1 s1 hr0 rk0 l0 => ?_
    wtm_at "go"
    rename_i R hR
    refine i_while ⟨fun m σ H' => (∃ y6, σ = [some (.ref s), some (.ref d), some (.ref u), some (.ref c), some (.ref p), some (.ref R), y6]) ∧ Same H H' ∧ ∃ (w : Nat) (zs : List V), H' R = some (.lst zs) ∧ RowsOk P H' i k w zs ∧ 1 ≤ zs.length ∧ m = 5 - zs.length,
      ⟨_, ⟨_, rfl⟩, s1.trans (same_new hR), ys0.length, _, upd_same, ?_, Nat.le_refl _, rfl⟩, fun m σ H2 h2 => ?_⟩
    · refine RowsOk.snoc (zs := []) ⟨fun n v h => by simp at h, l0⟩ (upd_new hR hr0) rfl ?_
      have := rk0.tt (Tk.new (o := .lst [.ref r0]) hR)
      simpa using this
    · obtain ⟨⟨y6, rfl⟩, s2, w, zs, hR2, rk, l1, hm⟩ := h2
      have l46 := rk.len gd ⟨gi.1, gi.2.2.1⟩
      have w6 := l46.2 l1
      obtain ⟨rf, uf, hf0, hf1⟩ := rk.first l1
      obtain ⟨zs0, v, rfl⟩ := snoc_of' l1
      obtain ⟨r, ys, rfl, hr, lr, rr⟩ := rk.row zs0.length v (by simp)
      wtm_at "go"
      refine ⟨_, fun σ' H' z => z, ?_⟩
      wtm_at "go"
      refine i_lastL hR2 ?_
      wtm_at "go"
      refine do_row_below (hse.same s2) (s2 _ _ hd) (fk.lk (Lk.of s2)) (s2 _ _ hu1) (s2 _ _ hc1) hr rr gd (by omega) fun v3 H3 s3 hv3 => ?_
      have hR3 := s3 _ _ hR2
      have rk3 := rk.same (Lk.of s3)
      rcases hv3 with rfl | ⟨l, zs', rfl, hl, rl, ll⟩
      · wtm_at "go"
        exact kk _ _ _ _ (s2.trans s3) hR3 rk3 l1
      · have lz1 : (zs0 ++ [V.ref r]).length ≤ 1000 := by omega
        wtm_at "go"
        have e1 : ((zs0 ++ [V.ref r]).length : Int) = (zs0.length : Int) + 1 := by simp
        have all := rk3.snoc hl (by omega) (by rw [e1, ← Int.add_assoc]; exact rl)
        have all2 := all.at (o := .lst (zs0 ++ [V.ref r] ++ [V.ref l])) hR3 (all.ne hR3 hf0 (s3 _ _ hf1))
        refine ⟨5 - (zs0 ++ [V.ref r] ++ [V.ref l]).length, ?_, ⟨_, rfl⟩, ?_, w, _, upd_same, all2, by simp, rfl⟩
        · have := (all.len gd ⟨gi.1, gi.2.2.1⟩).1
          simp at this hm ⊢
          omega
        · refine same_mut (p := R) ?_ (s2.trans s3)
          cases h : H R with
          | none => rfl
          | some o =>
            rw [s1 _ _ h] at hR
            cases hR
theorem do_plate_at {K : PySem.W.Frag} {H : Hp} {Q : VK} {s d u c p : Addr} {M : FpM.Me} {tl : Int} {P : Int → Int → Int → Prop} {B : Nat} {kvs us cs : List (List L2.Key × V)} {i k L : Int} (hse : SeAt K H s M tl) (hd : H d = some (.dT kvs)) (fk : FlK P B H kvs) (hu1 : H u = some (.dT us)) (hc1 : H c = some (.dT cs)) (hp : T3 H p i k L) (pp : P i k L) (gd : Gd P)
    (kk : ∀ (r : Addr) (w : Nat) (zs : List V) H', Same H H' → H' r = some (.lst zs) → RowsOk P H' i k w zs → 1 ≤ zs.length → Q (.ref r) H') : sp_plate_at K [.ref s, .ref d, .ref u, .ref c, .ref p] H Q E0 := ⟨s, d, u, c, p, M, tl, P, B, kvs, us, cs, i, k, L, rfl, hse, hd, fk, hu1, hc1, hp, pp, gd, kk⟩
end
section
section
variable {X : Cx}
/-- y = {k: v for ..}: HandS.Comp's rule for lists, turned to dicts -/
theorem ps_setDcT {i : Nat} {y : Str} {py : Pos} {kx vx tg iter : Expr} {ifs : List Expr} {scope : Scope} {own : List (Str × Nat)} {pos spos : Pos} {wi : TI} {g : TG} {tt : TT} {tk tv : TE} (hu : X.A.units + 1 < cLine) (hc : X.calm = true) (hN : X.N.Nodup) (hy : X.N[i]? = some y) (hyl : X.env.scope.names.lookup y = some .local)
    (hsw : swapsWith (.DictComp kx vx [⟨tg, iter, ifs, 0⟩] scope pos) (some (.Name y py)) spos.line X.env = pure true) (hi : PI X tg iter wi) (ok : BlkOk X.N X.env.scope scope own)
    (hg : ∀ (s : Shared) (H : Hp) (C : Addr) (cl : List (Str × Addr)) (fp : List Addr), PG (X.blk s H scope (compEnvC scope cl C X.env) fp) tg g) (ht : ∀ (s : Shared) (H : Hp) (C : Addr) (cl : List (Str × Addr)) (fp : List Addr), PTs (X.blk s H scope (compEnvC scope cl C X.env) fp) ifs tt)
    (hk : ∀ (s : Shared) (H : Hp) (C : Addr) (cl : List (Str × Addr)) (fp : List Addr), PE (X.blk s H scope (compEnvC scope cl C X.env) fp) kx tk)
    (he : ∀ (s : Shared) (H : Hp) (C : Addr) (cl : List (Str × Addr)) (fp : List Addr), PE (X.blk s H scope (compEnvC scope cl C X.env) fp) vx tv) (hs : ∀ x, foldedSetIterable iter X.env x = pure x := by intro _; rfl) :
    PS X (.Assign [.Name y py] (.DictComp kx vx [⟨tg, iter, ifs, 0⟩] scope pos) spos) (tAsg (tDcT wi g tt tk tv (own.map (·.2))) (gName i)) := by
  refine ⟨fun pins s σ H D I h => ?_⟩
  rw [exec_Assign_Name_used _ _ _ _ hsw]
  refine wpAny_bind (wpAny_standAt (wpAny_bind ?_))
  show wpAny _ X.A (do let _ ← comprehension (.DictComp kx vx [⟨tg, iter, ifs, 0⟩] scope pos) scope X.env (firstIterPos [⟨tg, iter, ifs, 0⟩] pos) newDict false (eval iter X.env) (some (assign (.Name y py) X.env))) _ _ s
  have h : tDcT wi g tt tk tv (own.map (·.2)) σ H (fun x H1 => gName i x σ H1 D.nx) := h
  refine wpAny_bind (thn (dcT_core (Qf := fun _ s' => SP X pins D .next s') hu hc hN I hi ok hg ht hk he hs h fun L C s' m H' I' q hn f => ?_) fun _ s' hq => wpAny_pure (wpAny_pure hq))
  show wpAny _ _ (assign (.Name y py) X.env (.ref L)) _ _ _
  refine wpAny_assign_Name (store_ok2 (v := V.ref L) I' hN hy (.inl hyl) rfl (fun s2 I2 ⟨a, sb, ha⟩ => ?_) (.inr hyl))
  obtain ⟨f0, f1, f2, f3, f4, f5⟩ := f
  have haC : C ≠ a := by
    rcases ha with z | z
    · rw [z]; exact f1
    · exact fun e => f4 y a z e.symm
  refine ⟨m, hn.sameBut sb haC, fun h3 sb3 => ?_⟩
  exact ⟨_, H', I2.turned (t' := s2.toks) (fun b o hb e => (sb3.2 b hb).trans e) f0 f1 f3 f4 f5, q⟩
theorem swD_true {kx vx : Expr} {gs : List Comprehension} {scope : Scope} {pos py : Pos} {y : Str} {l : Nat} {env : Env} (hk : env.scope.kind = .function) (hy : env.scope.names.lookup y = some .local) (hl : (py.line == pos.line) = true)
    (ha : (scope.names.any fun (n, k) => n == y && (k == .local || k == .cell)) = false) : swapsWith (.DictComp kx vx gs scope pos) (some (.Name y py)) l env = pure true := by
  have ky : env.kindOf y = some .local := hy
  have hb : env.blockKind = .function := by unfold Env.blockKind; rw [hk]; rfl
  unfold swapsWith
  simp only [hb, ky, ha, Expr.pos, hl]
  rfl
end
/-- a place that P tells -/
def PlV (P : Int → Int → Int → Prop) (H : Hp) (v : V) : Prop := ∃ q i k L, v = .ref q ∧ T3 H q i k L ∧ P i k L
theorem PlV.tt {P : Int → Int → Int → Prop} {H H' : Hp} {v : V} (h : PlV P H v) (t : Tk H H') : PlV P H' v := by
  obtain ⟨q, i, k, L, e, r, p⟩ := h
  exact ⟨q, i, k, L, e, t _ _ r, p⟩
/-- a plate -/
def PtAt (P : Int → Int → Int → Prop) (H : Hp) (v : V) : Prop := ∃ (a l : Addr) (i k k1 : Int) (w : Nat) (ns : List Int), v = .ref a ∧ H a = some (.tup [.str "plate", .int i, .int k, .int (i + (w : Int) - 1), .int k1, .ref l]) ∧ H l = some (.tup (ns.map V.int)) ∧
  1 ≤ w ∧ w ≤ 6 ∧ ns.length ≤ 24 ∧ ∀ (n : Nat) L, ns[n]? = some L → P (i + ((n % w : Nat) : Int)) (k + ((n / w : Nat) : Int)) L
theorem PtAt.tt {P : Int → Int → Int → Prop} {H H' : Hp} {v : V} (h : PtAt P H v) (t : Tk H H') : PtAt P H' v := by
  obtain ⟨a, l, i, k, k1, w, ns, e, h1, h2, r⟩ := h
  exact ⟨a, l, i, k, k1, w, ns, e, t _ _ h1, t _ _ h2, r⟩
theorem gd_floor {M : FpM.Me} {C : Int → Int → List FpM.Sol} {tl : Int} (mo : MeOk M tl) : Gd (FpM.FloorOk M C) := fun i k L h => by
  have := mo.reach
  have := (h.room i k (by omega) (by omega) (by omega) (by omega)).1
  have := mo.columns
  have := mo.rows
  omega
end
section
def sp_plate_floors (_ : PySem.W.Frag) : Sp := fun vs H Q _ => ∃ (v : V) (P : Int → Int → Int → Prop), vs = [v] ∧ PtAt P H v ∧
  ∀ (r : Addr) (ys : List V) H', Same H H' → H' r = some (.lst ys) → ys.length ≤ 24 → (∀ y ∈ ys, PlV P H' y) → Q (.ref r) H'
abbrev s_plate_floors : Stmt := topS 12
abbrev N_plate_floors : List Str := ["plate", "_", "i0", "k0", "i1", "k1", "levels", "wide", "at"]
theorem sc_plate_floors : FnScope N_plate_floors ["plate"] (defScope s_plate_floors) := ⟨rfl, rfl, rfl, by decide +kernel, rfl, by decide +kernel, by decide +kernel⟩
theorem bd_plate_floors : BindsOf ["plate"] "plate_floors" "plate_floors" s_plate_floors := fun _ _ _ _ _ _ us hl => match us, hl with | [_], _ => rfl
theorem cal_plate_floors {P : Program} {w : World} {K : PySem.W.Frag} {mg : Str → Option Value} {base : Heap} (T : Tx K mg) : Cal P w K mg base "plate_floors" 1 ["plate"] (sp_plate_floors K) := by
  refine T.plate_floors.cal sc_plate_floors bd_plate_floors (fun vs H Q E h => ?_) (fun f cdv A outer s H vs Q E hr h => ?_)
  · obtain ⟨v, P, rfl, hv, kk⟩ := h; rfl
  · have hu := hu_of hr
    obtain ⟨v, P, rfl, hv, kk⟩ := h
    refine ⟨_, (pss_cons (ps_asg (pv 0) (pg_tup rfl (pgs_cons (pg_name (i := 1) sc_plate_floors.nd rfl (.inl rfl)) (pgs_cons (pg_name (i := 2) sc_plate_floors.nd rfl (.inr rfl)) (pgs_cons (pg_name (i := 3) sc_plate_floors.nd rfl (.inr rfl)) (pgs_cons (pg_name (i := 4) sc_plate_floors.nd rfl (.inl rfl)) (pgs_cons (pg_name (i := 5) sc_plate_floors.nd rfl (.inl rfl)) (pgs_cons (pg_name (i := 6) sc_plate_floors.nd rfl (.inr rfl)) pgs_nil))))))))
      (pss_cons (ps_set (i := 7) sc_plate_floors.nd rfl (.inr rfl) (pe_op o_add (pe_op o_sub (pv 4) (pv 2)) pe_int))
      (pss_one (ps_ret (pe_lc (own := [("at", 8)]) rfl sc_plate_floors.nd (pi_range1 (by rfl) T.range (pa_cons (pe_callB (c_len K) (by rfl) T.len PySem.boot_len (pa_cons (pv 6) pa_nil)) pa_nil)) (blkOk_by (own := [("at", 8)]) (N := N_plate_floors) (sc := defScope (topS 12)) (by decide +kernel)) (fun _ _ _ _ _ => (pg_name (i := 8) sc_plate_floors.nd rfl (.inl rfl))) (fun _ _ _ _ _ => pts_nil) (fun _ _ _ _ _ => (pe_tup (pa_cons (pe_op o_add (pv 2) (pe_op o_mod (pv 8) (pv 7))) (pa_cons (pe_op o_add (pv 3) (pe_op o_fdiv (pv 8) (pv 7))) (pa_cons (pe_ix (x_tup K) (pv 6) (pv 8) (fun _ _ => rfl)) pa_nil)))))))))), ?_⟩
    change (_ : TS) _ [some _, none, none, none, none, none, none, none, none] H
    obtain ⟨a, l, i, k, k1, w, ns, rfl, ha, hl, w1, w6, ln, en⟩ := hv
    have lnm : (ns.map V.int).length ≤ 24 := by simpa using ln
    wtm_at "go"
    refine i_lenT (by wtm_at "hp") ?_
    wtm_at "go"
    rw [show (((ns.map V.int).length : Nat) : Int).toNat = ns.length by simp]
    intro D hD
    have ew : i + (w : Int) - 1 - i + 1 = (w : Int) := by omega
    rw [ew]
    refine lc_mapR hD (szt (by omega)) (fun _ y H => ∃ q i k L, y = .ref q ∧ q ≠ D ∧ T3 H q i k L ∧ P i k L) (fun _ _ _ _ h b => by obtain ⟨q, i, k, L, e, n, h1, h2⟩ := h; exact ⟨q, i, k, L, e, n, b _ _ n h1, h2⟩) (fun n H4 C G hn s4 acc kC => ?_) (fun ys H4 s4 hy hyl he => ?_)
    · change gName 8 _ [some _, some _, some _, some _, some _, some _, some _, some _, none] _ _
      obtain ⟨ac, hac⟩ := acc
      have hx := at_nat (xs := ns.map V.int) (i := n) (x := .int ns[n]) (by simp [hn])
      have hl4 := s4 _ _ hl
      wtm_at "go"
      rename_i q hq
      refine kC _ _ (same_new hq) ⟨q, _, _, _, rfl, (ne_of_none hac hq).symm, upd_same, ?_⟩
      have := en n ns[n] (List.getElem?_eq_getElem hn)
      rw [Int.natCast_emod, Int.natCast_ediv] at this
      rw [Int.zero_add]
      exact this
    · refine kk _ _ _ s4 hy (by omega) fun y hy' => ?_
      obtain ⟨n, hn, e⟩ := List.mem_iff_getElem.mp hy'
      obtain ⟨q, i, k, L, e1, _, e2, e3⟩ := he n y (by rw [List.getElem?_eq_getElem hn, e])
      exact ⟨q, i, k, L, e1, e2, e3⟩
theorem do_plate_floors {K : PySem.W.Frag} {H : Hp} {Q : VK} {v : V} {P : Int → Int → Int → Prop} (hv : PtAt P H v) (kk : ∀ (r : Addr) (ys : List V) H', Same H H' → H' r = some (.lst ys) → ys.length ≤ 24 → (∀ y ∈ ys, PlV P H' y) → Q (.ref r) H') : sp_plate_floors K [v] H Q E0 := ⟨v, P, rfl, hv, kk⟩
/-- all but the two stays -/
def Bt2 (F U : Addr) (H H' : Hp) : Prop := ∀ b o, b ≠ F → b ≠ U → H b = some o → H' b = some o
theorem Bt2.refl {F U : Addr} {H : Hp} : Bt2 F U H H := fun _ _ _ _ h => h
theorem Bt2.trans {F U : Addr} {H H1 H2 : Hp} (a : Bt2 F U H H1) (b : Bt2 F U H1 H2) : Bt2 F U H H2 := fun c o n m h => b c o n m (a c o n m h)
theorem Bt2.of {F U : Addr} {H H' : Hp} (s : Same H H') : Bt2 F U H H' := fun b o _ _ h => s b o h
theorem Bt2.fst {F U : Addr} {H : Hp} {o : HO} : Bt2 F U H (upd H F o) := fun b u n _ h => by rw [upd_ne n]; exact h
theorem Bt2.snd {F U : Addr} {H : Hp} {o : HO} : Bt2 F U H (upd H U o) := fun b u _ n h => by rw [upd_ne n]; exact h
/-- a list new since H -/
theorem Bt2.new {F U L : Addr} {H H' : Hp} {o : HO} (n : H L = none) (b : Bt2 F U H H') : Bt2 F U H (upd H' L o) := fun c u n1 n2 h => by
  rw [upd_ne (ne_of_none h n)]; exact b c u n1 n2 h
theorem Bt2.se {F U : Addr} {K : PySem.W.Frag} {H H' : Hp} {a : Addr} {M : FpM.Me} {tl : Int} {fs : List V} {us : List (List L2.Key × V)} (e : Bt2 F U H H') (hF : H F = some (.lst fs)) (hU : H U = some (.dT us)) (h : SeAt K H a M tl) : SeAt K H' a M tl := by
  obtain ⟨dx, h1, h2, sl, e1, e2⟩ := h.ex
  exact ⟨⟨dx, h1, h2, sl, e _ _ (ne_of e1 hF (by intro z; cases z)) (ne_of e1 hU (by intro z; cases z)) e1, e _ _ (ne_of e2 hF (by intro z; cases z)) (ne_of e2 hU (by intro z; cases z)) e2⟩, h.ok⟩
theorem Bt2.tk {F U : Addr} {H H' : Hp} {fs : List V} {us : List (List L2.Key × V)} (e : Bt2 F U H H') (hF : H F = some (.lst fs)) (hU : H U = some (.dT us)) : Tk H H' := fun a xs h =>
  e _ _ (ne_of h hF (by intro z; cases z)) (ne_of h hU (by intro z; cases z)) h
theorem inTile_rng {M : FpM.Me} {tl a b : Int} {p : Int × Int} (h : InTile M tl a b p) (ht : 0 ≤ tl) (ha : 0 ≤ a ∧ 0 ≤ b) : 0 ≤ p.1 ∧ p.1 < M.columns ∧ 0 ≤ p.2 ∧ p.2 < M.rows := by
  unfold InTile at h
  have := FpM.mul_nn ha.1 ht
  have := FpM.mul_nn ha.2 ht
  omega
def sp_tile_plates (K : PySem.W.Frag) : Sp := fun vs H Q _ => ∃ (s d : Addr) (M : FpM.Me) (tl : Int) (C : Int → Int → List FpM.Sol) (a b : Int), vs = [.ref s, .ref d, .int a, .int b] ∧ SeAt K H s M tl ∧ CdAt M C H d ∧ (0 ≤ a ∧ a ≤ 10 ∧ 0 ≤ b ∧ b ≤ 10) ∧
  ∀ (r : Addr) (fs : List V) H', Same H H' → H' r = some (.lst fs) → fs.length ≤ 4800 → (∀ y ∈ fs, PtAt (FpM.FloorOk M C) H' y) → Q (.ref r) H'
local macro_rules | `(tactic| wtm_at "go1") => `(tactic| first
  | with_reducible refine i_dcT ?_
  | with_reducible refine i_callM ?_
  | ((with_reducible show rAppend (V.ref _) _ _ _); refine i_append (by wtm_at "hp") (szb (by omega)) ?_)
  | ((with_reducible show ∃ _, ∃ _, ∃ _, V.ref _ = _ ∧ _ ∧ _ ∧ _); refine i_self (by wtm_at "hp") (by rfl) ?_))
abbrev s_tile_plates : Stmt := topS 11
abbrev N_tile_plates : List Str := ["settings", "columns", "a", "b", "found", "used", "cells", "cell", "floors", "i", "k", "level", "rows", "levels", "row", "place"]
theorem sc_tile_plates : FnScope N_tile_plates ["settings", "columns", "a", "b"] (defScope s_tile_plates) := ⟨rfl, rfl, rfl, by decide +kernel, rfl, by decide +kernel, by decide +kernel⟩
theorem bd_tile_plates : BindsOf ["settings", "columns", "a", "b"] "tile_plates" "tile_plates" s_tile_plates := fun _ _ _ _ _ _ us hl => match us, hl with | [_, _, _, _], _ => rfl
theorem cal_tile_plates {P : Program} {w : World} {K : PySem.W.Frag} {mg : Str → Option Value} {base : Heap} (T : Tx K mg) : Cal P w K mg base "tile_plates" 5 ["settings", "columns", "a", "b"] (sp_tile_plates K) := by
  refine T.tile_plates.cal sc_tile_plates bd_tile_plates (fun vs H Q E h => ?_) (fun f cdv A outer s H vs Q E hr h => ?_)
  · obtain ⟨s, d, M, tl, C, a, b, rfl, hse, hcd, hab, kk⟩ := h; rfl
  · have hu := hu_of hr
    obtain ⟨s, d, M, tl, C, a, b, rfl, hse, hcd, hab, kk⟩ := h
    refine ⟨_, (pss_cons (ps_set (i := 4) sc_tile_plates.nd rfl (.inl rfl) (pe_lst pa_nil))
      (pss_cons (ps_set (i := 5) sc_tile_plates.nd rfl (.inl rfl) pe_dnewT)
      (pss_cons (ps_setDcT (i := 6) (own := [("cell", 7)]) hu rfl sc_tile_plates.nd rfl rfl (swD_true rfl rfl rfl (by decide +kernel)) (pi_list (pe_methC (cal_m_tile_cells (K := K) T) T.cls (hr.mono (by decide)) (pv 0) (pa_cons (pv 2) (pa_cons (pv 3) pa_nil)))) (blkOk_by (own := [("cell", 7)]) (N := N_tile_plates) (sc := defScope (topS 11)) (by decide +kernel)) (fun _ _ _ _ _ => (pg_name (i := 7) sc_tile_plates.nd rfl (.inl rfl))) (fun _ _ _ _ _ => pts_nil) (fun _ _ _ _ _ => (pv 7)) (fun _ _ _ _ _ => pe_bl))
      (pss_cons (ps_set (i := 8) sc_tile_plates.nd rfl (.inl rfl) (pe_callC (cal_floors_of (K := K) T) (hr.mono (by decide)) (by rfl) (pa_cons (pv 0) (pa_cons (pv 1) (pa_cons (pe_methC (cal_m_tile_cells (K := K) T) T.cls (hr.mono (by decide)) (pv 0) (pa_cons (pv 2) (pa_cons (pv 3) pa_nil))) pa_nil)))))
      (pss_cons (ps_for PassesOwn.never rfl (pi_list (pe_methC (cal_m_tile_cells (K := K) T) T.cls (hr.mono (by decide)) (pv 0) (pa_cons (pv 2) (pa_cons (pv 3) pa_nil)))) (pg_tup rfl (pgs_cons (pg_name (i := 9) sc_tile_plates.nd rfl (.inl rfl)) (pgs_cons (pg_name (i := 10) sc_tile_plates.nd rfl (.inl rfl)) pgs_nil))) (pss_one (ps_for PassesOwn.never rfl (pi_list (pe_dget hu (pv 8) (pe_tup (pa_cons (pv 9) (pa_cons (pv 10) pa_nil))) (fun _ _ => rfl))) (pg_name (i := 11) sc_tile_plates.nd rfl (.inl rfl)) (pss_one (ps_if (pt_cmp (pc_dnotin hu (pe_tup (pa_cons (pv 9) (pa_cons (pv 10) (pa_cons (pv 11) pa_nil)))) (pv 5)) rfl) (pss_cons (ps_set (i := 12) sc_tile_plates.nd rfl (.inl rfl) (pe_callC (cal_plate_at (K := K) T) (hr.mono (by decide)) (by rfl) (pa_cons (pv 0) (pa_cons (pv 8) (pa_cons (pv 5) (pa_cons (pv 6) (pa_cons (pe_tup (pa_cons (pv 9) (pa_cons (pv 10) (pa_cons (pv 11) pa_nil)))) pa_nil)))))))
      (pss_cons (ps_set (i := 13) sc_tile_plates.nd rfl (.inl rfl) (pe_lst pa_nil))
      (pss_cons (ps_for PassesOwn.never rfl (pi_list (pv 12)) (pg_name (i := 14) sc_tile_plates.nd rfl (.inl rfl)) (pss_one (ps_for PassesOwn.never rfl (pi_list (pv 14)) (pg_name (i := 15) sc_tile_plates.nd rfl (.inl rfl)) (pss_cons (ps_dput hu (pv 5) (pv 15) pe_bl rfl)
      (pss_one (ps_expr (pe_bm PySem.F.plainAttrs_list PySem.F.slot_list_append PySem.F.type_list_append mt_append (pv 13) (pa_cons (pe_ix (x_tup K) (pv 15) pe_int (fun _ _ => rfl)) pa_nil))))))))
      (pss_one (ps_expr (pe_bm PySem.F.plainAttrs_list PySem.F.slot_list_append PySem.F.type_list_append mt_append (pv 4) (pa_cons (pe_tup (pa_cons pe_str (pa_cons (pv 9) (pa_cons (pv 10) (pa_cons (pe_ix (x_tup K) (pe_ix (x_list K) (pe_ix (x_list K) (pv 12) (pe_un u_neg pe_int) (fun _ _ => rfl)) (pe_un u_neg pe_int) (fun _ _ => rfl)) pe_int (fun _ _ => rfl)) (pa_cons (pe_ix (x_tup K) (pe_ix (x_list K) (pe_ix (x_list K) (pv 12) (pe_un u_neg pe_int) (fun _ _ => rfl)) (pe_un u_neg pe_int) (fun _ _ => rfl)) pe_int (fun _ _ => rfl)) (pa_cons (pe_callTy (c_tuple K) (by rfl) T.tuple b_tuple (pa_cons (pv 13) pa_nil)) pa_nil))))))) pa_nil))))))) pss_nil)))))
      (pss_one (ps_ret (pv 4)))))))), ?_⟩
    change (_ : TS) _ [some _, some _, some _, some _, none, none, none, none, none, none, none, none, none, none, none, none] H
    have ⟨⟨dx, h1, h2, sl, e1, e2⟩, mo⟩ := hse
    have mt := mo.tile
    have gd : Gd (FpM.FloorOk M C) := gd_floor mo
    wtm_at "go"
    rename_i F hF U hU
    have s2 : Same H (upd (upd H F (.lst [])) U (.dT [])) := (same_new hF).trans (same_new hU)
    refine do_tile_cells (hse.same s2) hab fun c1 ys1 ps1 H3 _ s3 hc1 a1 l1 t1 => ?_
    have s03 := s2.trans s3
    wtm_at "go"
    intro D hD
    refine dcT_list (xs := ys1) (fun j H' => Same H3 H' ∧ ∃ kvs, H' D = some (.dT kvs) ∧ kvs.length ≤ j) ⟨same_new hD, [], upd_same, Nat.le_refl _⟩ (fun j H' _ h' => SqL.of (h'.1 _ _ hc1)) (fun j x H' hj h' => ?_) (fun H4 h4 => ?_)
    · obtain ⟨s4, kvs, hD4, lk⟩ := h'
      obtain ⟨p, hp, q, rfl, hq⟩ := a1.get hj
      have hq4 := s4 _ _ hq
      have hi := (List.getElem?_eq_some_iff.mp hj).1
      have := a1.length
      change gName 7 _ [some _, some _, some _, some _, some _, some _, _, none, _, _, _, _, _, _, _, _] _ _
      wtm_at "go"
      exact ⟨kvs, k2 p.1 p.2, q, rfl, hq4, hD4, szt (by omega), same_mut hD s4, _, upd_same, Nat.le_trans (length_putK _ _ _) (by omega)⟩
    · obtain ⟨s4, cvs, hD4, lk⟩ := h4
      have s04 := s03.trans s4
      have e14 := s04 _ _ e1
      wtm_at "go"
      refine do_tile_cells (hse.same s04) hab fun c2 ys2 ps2 H5 _ s5 hc2 a2 l2 t2 => ?_
      wtm_at "go"
      have s05 := s04.trans s5
      refine do_floors_of (hse.same s05) (hcd.same s05) hc2 a2 l2 (fun p hp => inTile_rng ((t2 p).mp hp) (by omega) ⟨hab.1, hab.2.2.1⟩) fun fd kvs H6 nfd s6 hfd fk has lkv fr => ?_
      have s06 := s05.trans s6
      have e16 := s06 _ _ e1
      wtm_at "go"
      refine do_tile_cells (hse.same s06) hab fun c3 ys3 ps3 H7 nc3 s7 hc3 a3 l3 t3 => ?_
      have s07 := s06.trans s7
      have s27 : Same (upd (upd H F (.lst [])) U (.dT [])) H7 := s3.trans (s4.trans (s5.trans (s6.trans s7)))
      have hF7 : H7 F = some (.lst []) := s27 _ _ (upd_new hU upd_same)
      have hU7 : H7 U = some (.dT []) := s27 _ _ upd_same
      have hfd7 := s7 _ _ hfd
      have hD7 : H7 D = some (.dT cvs) := s7 _ _ (s6 _ _ (s5 _ _ hD4))
      have fk7 := fk.lk (Lk.of s7)
      have nfU : fd ≠ U := fun z => by
        rw [z] at nfd
        rw [s5 _ _ (s4 _ _ (s3 _ _ upd_same))] at nfd
        cases nfd
      have nfF : fd ≠ F := ne_of hfd7 hF7 (by intro z; cases z)
      have nDU : D ≠ U := fun z => by
        rw [z] at hD
        rw [s3 _ _ upd_same] at hD
        cases hD
      have nDF : D ≠ F := ne_of hD7 hF7 (by intro z; cases z)
      have hse7 := hse.same s07
      have s25 : Same (upd (upd H F (.lst [])) U (.dT [])) H5 := s3.trans (s4.trans s5)
      have hF5 : H5 F = some (.lst []) := s25 _ _ (upd_new hU upd_same)
      have hU5 : H5 U = some (.dT []) := s25 _ _ upd_same
      have nc3F : c3 ≠ F := (ne_of_none (s6 _ _ hF5) nc3).symm
      have nc3U : c3 ≠ U := (ne_of_none (s6 _ _ hU5) nc3).symm
      generalize hP : FpM.FloorOk M C = P at gd fk7 kk
      wtm_at "go"
      refine for_list (xs := ys3) (fun n σ H' => (∃ y9 y10 y11 y12 y13 y14 y15, σ = [some (.ref s), some (.ref d), some (.int a), some (.int b), some (.ref F), some (.ref U), some (.ref D), none, some (.ref fd), y9, y10, y11, y12, y13, y14, y15]) ∧ Bt2 F U H7 H' ∧
          ∃ (fs : List V) (us : List (List L2.Key × V)), H' F = some (.lst fs) ∧ H' U = some (.dT us) ∧ fs.length ≤ n * 200 ∧ us.length ≤ n * 4800 ∧ ∀ y ∈ fs, PtAt P H' y)
        ⟨⟨_, _, _, _, _, _, _, rfl⟩, Bt2.refl, [], [], hF7, hU7, Nat.zero_le _, Nat.zero_le _, fun y h => absurd h (by simp)⟩ (fun n σ H' _ h' => SqL.of (h'.2.1 _ _ nc3F nc3U hc3)) (fun n x σ H8 hx h8 => ?_) (fun σ H8 h8 => ?_)
      · obtain ⟨⟨y9, y10, y11, y12, y13, y14, y15, rfl⟩, b8, fs, us, hF8, hU8, lf8, lu8, pt8⟩ := h8
        obtain ⟨p, hp, q, rfl, hq⟩ := a3.get hx
        have hn24 : n < 24 := by have := (List.getElem?_eq_some_iff.mp hp).1; omega
        have hq8 := b8.tk hF7 hU7 _ _ hq
        have pin : p ∈ ps2 := (t2 p).mpr ((t3 p).mp (List.mem_of_getElem? hp))
        obtain ⟨v, hv⟩ := has p pin
        obtain ⟨l, ns, rfl, hl7, ln, en⟩ := fk7 _ _ _ hv
        have nl5 := fr _ _ _ hv
        have nlF : l ≠ F := (ne_of_none hF5 nl5).symm
        have nlU : l ≠ U := (ne_of_none hU5 nl5).symm
        have hfd8 := b8 _ _ nfF nfU hfd7
        wtm_at "go"
        rename_i t ht
        refine i_getT (k := k2 p.1 p.2) (upd_new ht hfd8) upd_same hv ?_
        have b9 : Bt2 F U H7 (upd H8 t (.tup [.int p.1, .int p.2])) := b8.trans (.of (same_new ht))
        refine ⟨l, rfl, ⟨_, SqL.of (b9 _ _ nlF nlU hl7)⟩, ?_⟩
        refine for_list (xs := ns.map V.int) (fun j σ H' => (∃ y11 y12 y13 y14 y15, σ = [some (.ref s), some (.ref d), some (.int a), some (.int b), some (.ref F), some (.ref U), some (.ref D), none, some (.ref fd), some (.int p.1), some (.int p.2), y11, y12, y13, y14, y15]) ∧ Bt2 F U H7 H' ∧
            ∃ (fs : List V) (us : List (List L2.Key × V)), H' F = some (.lst fs) ∧ H' U = some (.dT us) ∧ fs.length ≤ n * 200 + j ∧ us.length ≤ n * 4800 + j * 24 ∧ ∀ y ∈ fs, PtAt P H' y)
          ⟨⟨_, _, _, _, _, rfl⟩, b9, fs, us, upd_new ht hF8, upd_new ht hU8, by omega, by omega, fun y hy => (pt8 y hy).tt (Tk.new ht)⟩ (fun j σ H' _ h' => SqL.of (h'.2.1 _ _ nlF nlU hl7)) (fun j x σ H9 hx9 h9 => ?_) (fun σ H9 h9 => ?_)
        · obtain ⟨⟨y11, y12, y13, y14, y15, rfl⟩, b9, fs, us, hF9, hU9, lf9, lu9, pt9⟩ := h9
          obtain ⟨L, hL, rfl⟩ : ∃ L, ns[j]? = some L ∧ V.int L = x := by simpa using hx9
          have hj200 : j < 200 := by have := (List.getElem?_eq_some_iff.mp hL).1; omega
          have pL := en L (List.mem_of_getElem? hL)
          have gp := gd _ _ _ pL
          wtm_at "go"
          rename_i t2 ht2
          refine i_hasT (k := k3 p.1 p.2 L) (upd_new ht2 hU9) upd_same ?_
          have b10 : Bt2 F U H7 (upd H9 t2 (.tup [.int p.1, .int p.2, .int L])) := b9.trans (.of (same_new ht2))
          have hF10 := upd_new (q := .tup [.int p.1, .int p.2, .int L]) ht2 hF9
          have hU10 := upd_new (q := .tup [.int p.1, .int p.2, .int L]) ht2 hU9
          have pt10 : ∀ y ∈ fs, PtAt P (upd H9 t2 (.tup [.int p.1, .int p.2, .int L])) y := fun y hy => (pt9 y hy).tt (Tk.new ht2)
          generalize upd H9 t2 (.tup [.int p.1, .int p.2, .int L]) = H10 at b10 hF10 hU10 pt10
          wtm_at "go"
          · rename_i t3' ht3
            have b11 : Bt2 F U H7 (upd H10 t3' (.tup [.int p.1, .int p.2, .int L])) := b10.trans (.of (same_new ht3))
            have hF11 := upd_new (q := .tup [.int p.1, .int p.2, .int L]) ht3 hF10
            have hU11 := upd_new (q := .tup [.int p.1, .int p.2, .int L]) ht3 hU10
            have pt11 : ∀ y ∈ fs, PtAt P (upd H10 t3' (.tup [.int p.1, .int p.2, .int L])) y := fun y hy => (pt10 y hy).tt (Tk.new ht3)
            have hT11 : T3 (upd H10 t3' (.tup [.int p.1, .int p.2, .int L])) t3' p.1 p.2 L := upd_same
            generalize upd H10 t3' (.tup [.int p.1, .int p.2, .int L]) = H11 at b11 hF11 hU11 pt11 hT11
            refine do_plate_at (b11.se hF7 hU7 hse7) (b11 _ _ nfF nfU hfd7) (B := 200) (fun i' k' v' hv' => ?_) hU11 (b11 _ _ nDF nDU hD7) hT11 pL gd fun r w zs H12 s12 hr12 rk12 lz1 => ?_
            · obtain ⟨l', ns', rfl, q1, q2, q3⟩ := fk7 _ _ _ hv'
              have nl' := fr _ _ _ hv'
              exact ⟨l', ns', rfl, b11 _ _ (ne_of_none hF5 nl').symm (ne_of_none hU5 nl').symm q1, q2, q3⟩
            · have hF12 := s12 _ _ hF11
              have hU12 := s12 _ _ hU11
              have lz4 := rk12.len gd ⟨gp.1, gp.2.2.1⟩
              have w6 := lz4.2 lz1
              have w1 := rk12.w0
              wtm_at "go"
              rename_i LV hLV
              have nLF : LV ≠ F := (ne_of_none hF12 hLV).symm
              have nLU : LV ≠ U := (ne_of_none hU12 hLV).symm
              have b12 : Bt2 F U H7 H12 := b11.trans (.of s12)
              have hL13 : (upd H12 LV (.lst [])) LV = some (.lst []) := upd_same
              have hU13 : (upd H12 LV (.lst [])) U = some (.dT us) := upd_new hLV hU12
              refine for_list (xs := zs) (fun m σ H' => (∃ y14 y15, σ = [some (.ref s), some (.ref d), some (.int a), some (.int b), some (.ref F), some (.ref U), some (.ref D), none, some (.ref fd), some (.int p.1), some (.int p.2), some (.int L), some (.ref r), some (.ref LV), y14, y15]) ∧ Bt2 LV U (upd H12 LV (.lst [])) H' ∧
                  ∃ (us' : List (List L2.Key × V)) (ns' : List Int), H' U = some (.dT us') ∧ us'.length ≤ us.length + m * w ∧ H' LV = some (.lst (ns'.map V.int)) ∧ ns'.length = m * w ∧ ∀ (n : Nat) L, ns'[n]? = some L → P (p.1 + ((n % w : Nat) : Int)) (p.2 + ((n / w : Nat) : Int)) L)
                ⟨⟨_, _, rfl⟩, Bt2.refl, us, [], hU13, by omega, upd_same, by simp, fun n L h => by simp at h⟩ (fun m σ H' _ h' => SqL.of (h'.2.1 _ _ (ne_of_none hr12 hLV) (ne_of hr12 hU12 (by intro z; cases z)) (upd_new hLV hr12))) (fun m x σ H14 hx14 h14 => ?_) (fun σ H14 h14 => ?_)
              · obtain ⟨⟨y14, y15, rfl⟩, b14, us', ns', hU14, lu14, hL14, ln14, en14⟩ := h14
                obtain ⟨rr, ys, rfl, hrr, lys, rowk⟩ := rk12.row m x hx14
                have hm4 : m < 4 := by have := (List.getElem?_eq_some_iff.mp hx14).1; omega
                have mw : m * w ≤ 18 := Nat.le_trans (Nat.mul_le_mul (show m ≤ 3 by omega) w6) (by decide)
                have nrL : rr ≠ LV := ne_of_none hrr hLV
                have nrU : rr ≠ U := ne_of hrr hU12 (by intro z; cases z)
                have hrr14 := b14 _ _ nrL nrU (upd_new hLV hrr)
                wtm_at "go"
                refine for_list (xs := ys) (fun c σ H' => (∃ y15, σ = [some (.ref s), some (.ref d), some (.int a), some (.int b), some (.ref F), some (.ref U), some (.ref D), none, some (.ref fd), some (.int p.1), some (.int p.2), some (.int L), some (.ref r), some (.ref LV), some (.ref rr), y15]) ∧ Bt2 LV U (upd H12 LV (.lst [])) H' ∧
                    ∃ (us' : List (List L2.Key × V)) (ns' : List Int), H' U = some (.dT us') ∧ us'.length ≤ us.length + m * w + c ∧ H' LV = some (.lst (ns'.map V.int)) ∧ ns'.length = m * w + c ∧ ∀ (n : Nat) L, ns'[n]? = some L → P (p.1 + ((n % w : Nat) : Int)) (p.2 + ((n / w : Nat) : Int)) L)
                  ⟨⟨_, rfl⟩, b14, us', ns', hU14, by omega, hL14, by omega, en14⟩ (fun c σ H' _ h' => SqL.of (h'.2.1 _ _ nrL nrU (upd_new hLV hrr))) (fun c x σ H15 hx15 h15 => ?_) (fun σ H15 h15 => ?_)
                · obtain ⟨⟨y15, rfl⟩, b15, us', ns', hU15, lu15, hL15, ln15, en15⟩ := h15
                  obtain ⟨qq, L', rfl, hqq, pqq⟩ := rowk c x hx15
                  have hc6 : c < w := by have := (List.getElem?_eq_some_iff.mp hx15).1; omega
                  have hqq15 := b15.tk hL13 hU13 _ _ (upd_new (q := .lst []) hLV hqq)
                  wtm_at "go"
                  refine i_putT (k := k3 _ _ _) hU15 hqq15 (szb (by omega)) ?_
                  have hL16 : (upd H15 U (.dT (putK us' (k3 (p.1 + (c : Int)) (p.2 + (m : Int)) L') (.bl true)))) LV = some (.lst (ns'.map V.int)) := by rw [upd_ne nLU]; exact hL15
                  have hq16 : (upd H15 U (.dT (putK us' (k3 (p.1 + (c : Int)) (p.2 + (m : Int)) L') (.bl true)))) qq = some (.tup [.int (p.1 + (c : Int)), .int (p.2 + (m : Int)), .int L']) := (Lk.dT hU15).tup hqq15
                  have lnm : (ns'.map V.int).length ≤ 1000 := by simp; omega
                  wtm_at "go"
                  refine ⟨⟨_, rfl⟩, b15.trans (Bt2.snd.trans Bt2.fst), _, ns' ++ [L'], by rw [upd_ne nLU.symm, upd_same], Nat.le_trans (length_putK _ _ _) (by omega), by rw [upd_same]; simp, by simp; omega, fun n2 L2' h2' => ?_⟩
                  rcases get_snoc h2' with h2' | ⟨rfl, rfl⟩
                  · exact en15 _ _ h2'
                  · rw [ln15]
                    have e1 : (m * w + c) % w = c := by rw [Nat.mul_comm, Nat.mul_add_mod, Nat.mod_eq_of_lt hc6]
                    have e2 : (m * w + c) / w = m := by rw [Nat.mul_comm, Nat.mul_add_div (by omega), Nat.div_eq_of_lt hc6]; omega
                    rw [e1, e2]
                    exact pqq
                · obtain ⟨⟨y15, rfl⟩, b15, us', ns', hU15, lu15, hL15, ln15, en15⟩ := h15
                  have e1 : (m + 1) * w = m * w + w := Nat.succ_mul m w
                  exact ⟨⟨_, _, rfl⟩, b15, us', ns', hU15, by omega, hL15, by omega, en15⟩
              · obtain ⟨⟨y14, y15, rfl⟩, b14, us', ns', hU14, lu14, hL14, ln14, en14⟩ := h14
                have zw : zs.length * w ≤ 24 := Nat.le_trans (Nat.mul_le_mul lz4.1 w6) (by decide)
                have hF14 : H14 F = some (.lst fs) := b14 _ _ nLF.symm (ne_of hF12 hU12 (by intro z; cases z)) (upd_new hLV hF12)
                have hr14 := b14 _ _ (ne_of_none hr12 hLV) (ne_of hr12 hU12 (by intro z; cases z)) (upd_new hLV hr12)
                obtain ⟨zs0, v9, rfl⟩ := snoc_of' lz1
                obtain ⟨rr, ys, rfl, hrr, lys, rowk⟩ := rk12.row zs0.length v9 (by simp)
                have hrr14 := b14 _ _ (ne_of_none hrr hLV) (ne_of hrr hU12 (by intro z; cases z)) (upd_new hLV hrr)
                obtain ⟨ys0, v8, rfl⟩ := snoc_of' (l := ys) (by omega)
                obtain ⟨qq, L', rfl, hqq, pqq⟩ := rowk ys0.length v8 (by simp)
                have hqq14 : T3 H14 qq (p.1 + (ys0.length : Int)) (p.2 + (zs0.length : Int)) L' := b14.tk hL13 hU13 _ _ (upd_new (q := .lst []) hLV hqq)
                have ewl : (ys0.length : Int) = (w : Int) - 1 := by simp at lys; omega
                wtm_at "go"
                refine i_lastL hr14 ?_
                wtm_at "go"
                refine i_lastL hrr14 ?_
                wtm_at "go"
                refine i_lastL hr14 ?_
                wtm_at "go"
                refine i_lastL hrr14 ?_
                wtm_at "go"
                refine i_tupleL hL14 fun l5 hl5 => ?_
                have hF15 := upd_new (q := .tup (ns'.map V.int)) hl5 hF14
                have lf15 : fs.length ≤ 10000000 := by omega
                wtm_at "go"
                rename_i pl hpl
                have hF16 := upd_new (q := .tup [.str "plate", .int p.1, .int p.2, .int (p.1 + (ys0.length : Int)), .int (p.2 + (zs0.length : Int)), .ref l5]) hpl hF15
                have t12 : Tk H12 H14 := (Tk.new hLV).trans (b14.tk hL13 hU13)
                have t16 : Tk H14 (upd (upd (upd H14 l5 (.tup (ns'.map V.int))) pl (.tup [.str "plate", .int p.1, .int p.2, .int (p.1 + (ys0.length : Int)), .int (p.2 + (zs0.length : Int)), .ref l5])) F (.lst (fs ++ [.ref pl]))) := (Tk.new hl5).trans ((Tk.new hpl).trans (Tk.lst hF16))
                refine ⟨⟨_, _, _, _, _, rfl⟩, fun bb o n1 n2 hb => ?_, _, us', upd_same, ?_, by simp; omega, by omega, fun y hy => ?_⟩
                · have h12 := b12 _ _ n1 n2 hb
                  have h14' := b14 _ _ (ne_of_none h12 hLV) n2 (upd_new hLV h12)
                  rw [upd_ne n1]
                  exact upd_new hpl (upd_new hl5 h14')
                · rw [upd_ne (ne_of hU14 hF14 (by intro z; cases z))]
                  exact upd_new hpl (upd_new hl5 hU14)
                · rcases List.mem_append.mp hy with hy | hy
                  · exact ((pt11 y hy).tt (Tk.of s12)).tt (t12.trans t16)
                  · rw [List.mem_singleton.mp hy]
                    refine ⟨pl, l5, p.1, p.2, p.2 + (zs0.length : Int), w, ns', rfl, ?_, upd_tup hF16 (upd_new hpl upd_same), w1, w6, by omega, en14⟩
                    refine upd_tup hF16 ?_
                    rw [upd_same, show p.1 + (w : Int) - 1 = p.1 + (ys0.length : Int) by omega]
          · exact ⟨⟨_, _, _, _, _, rfl⟩, b10, fs, us, hF10, hU10, by omega, by omega, pt10⟩
        · obtain ⟨⟨y11, y12, y13, y14, y15, rfl⟩, b9, fs, us, hF9, hU9, lf9, lu9, pt9⟩ := h9
          rw [List.length_map] at lf9 lu9
          exact ⟨⟨_, _, _, _, _, _, _, rfl⟩, b9, fs, us, hF9, hU9, by omega, by omega, pt9⟩
      · obtain ⟨⟨y9, y10, y11, y12, y13, y14, y15, rfl⟩, b8, fs, us, hF8, hU8, lf8, lu8, pt8⟩ := h8
        have := a3.length
        wtm_at "go"
        refine kk _ _ _ (fun b' o hb' => ?_) hF8 (by omega) pt8
        exact b8 _ _ (ne_of_none hb' hF) (ne_of_none hb' (none_of (same_new hF) hU)) (s07 _ _ hb')
theorem do_tile_plates {K : PySem.W.Frag} {H : Hp} {Q : VK} {s d : Addr} {M : FpM.Me} {tl : Int} {C : Int → Int → List FpM.Sol} {a b : Int} (hse : SeAt K H s M tl) (hcd : CdAt M C H d) (hab : 0 ≤ a ∧ a ≤ 10 ∧ 0 ≤ b ∧ b ≤ 10)
    (kk : ∀ (r : Addr) (fs : List V) H', Same H H' → H' r = some (.lst fs) → fs.length ≤ 4800 → (∀ y ∈ fs, PtAt (FpM.FloorOk M C) H' y) → Q (.ref r) H') : sp_tile_plates K [.ref s, .ref d, .int a, .int b] H Q E0 := ⟨s, d, M, tl, C, a, b, rfl, hse, hcd, hab, kk⟩
end
section
/-! ### sorted(d): d's keys -/
section
variable {prog : Program} {w : World} {A : Around} {E : Value → Shared → Prop} {s : Shared} {T : String} {r d : Addr} {n : Nat} {P : Nat → Value → Prop} {OK : Heap → Prop}
theorem collect_kdl {R : List Value → Shared → Prop} (K : PySem.W.KdlSrc prog w T r d n P OK) (hh : A.handled = none) (hok : OK s.heap) (hn : n ≤ sizeLine)
    (h : ∀ (h' : Heap) (tk : Nat) (acc : Array Value), (∀ b o, s.heap.get? b = some o → h'.get? b = some o) → s.heap.objs.size < h'.objs.size → PySem.ItemsOf P acc n → R acc.toList { s with heap := h', toks := tk }) :
    wpAny (model prog w) A (collect (.ref r)) R E s := by
  have hr := K.there _ hok
  unfold collect
  refine wpAny_bind (wpAny_runValue (codeAny_builtin PySem.F.entry_proto_collect ?_))
  rw [Around.under_plainId PySem.F.plain_proto_collect _]
  show wpAny _ A.in1 (newList [] >>= fun l => again (.builtin "list.__iadd__" ⟨[l, .ref r], []⟩)) _ _ s
  refine wpAny_bind (wpAny_newObj_type ?_)
  refine wpAny_pure ⟨plainId_quiet PySem.F.plain_list_iadd _, codeAny_builtin PySem.F.entry_list_iadd ?_⟩
  rw [Around.under_plainId PySem.F.plain_list_iadd _]
  have hS₁ : (s.heap.push { cls := .type "list", data := .seq ([] : List Value).toArray }).get? s.heap.objs.size = some { cls := .type "list", data := .seq #[] } := Heap.get?_push_size _ rfl
  show wpAny _ A.in1 (Builtin.List.listExtendWith (.ref s.heap.objs.size) (.ref r) (.ref s.heap.objs.size)) _ _ _
  have key := PySem.W.kdl_extend (prog := prog) (w := w) (A := A) (s := { s with heap := s.heap.push { cls := .type "list", data := .seq ([] : List Value).toArray } })
    (R := fun (q : Result) (s' : Shared) => ∃ (h' : Heap) (tk : Nat) (acc' : Array Value) (c' : Nat), q = .ok (.ret (.ref s.heap.objs.size)) ∧ s' = { s with heap := h', toks := tk } ∧
      (∀ b o, s.heap.get? b = some o → h'.get? b = some o) ∧ h'.get? s.heap.objs.size = some { cls := .type "list", dict := none, data := .seq acc' c', slots := #[] } ∧ PySem.ItemsOf P acc' n)
    K hh (K.keep _ _ hok fun b _ o e => Heap.get?_push_of_some _ e) s.heap.objs.size (Nat.ne_of_gt hr.1) (Nat.ne_of_gt hr.2) (.ref s.heap.objs.size) 0 hS₁
    (fun h' tk acc' c' hk hS' hacc => ⟨h', tk, acc', c', rfl, rfl, fun b o e => hk b o (Nat.ne_of_lt (Heap.lt_size e)) (Heap.get?_push_of_some _ e), hS', hacc⟩) hn
  refine wpAny_mono key (fun fin s' x => ?_) fun e s' x => ?_
  · cases fin with
    | done f =>
      obtain ⟨h', tk, acc', c', e, rfl, hk, hS', hacc⟩ := x
      cases e
      show wpAny _ A (load s.heap.objs.size >>= _) _ _ _
      refine wpAny_bind (wpAny_load hS' ?_)
      exact wpAny_pure (h h' tk acc' hk (Heap.lt_size hS') hacc)
    | again c₁ =>
      refine ⟨x.1, codeAny_mono x.2 fun q s₂ y => ?_⟩
      obtain ⟨h', tk, acc', c', rfl, rfl, hk, hS', hacc⟩ := y
      show wpAny _ A (load s.heap.objs.size >>= _) _ _ _
      refine wpAny_bind (wpAny_load hS' ?_)
      exact wpAny_pure (h h' tk acc' hk (Heap.lt_size hS') hacc)
  · obtain ⟨_, _, _, _, e', _⟩ := x
    cases e'
theorem sorted_kdl {Q : Value → Shared → Prop} (K : PySem.W.KdlSrc prog w T r d n P OK) (hh : A.handled = none) (hok : OK s.heap) (hn : n ≤ sizeLine)
    (h : ∀ (h' : Heap) (tk : Nat) (acc : Array Value), (∀ b o, s.heap.get? b = some o → h'.get? b = some o) → s.heap.objs.size < h'.objs.size → PySem.ItemsOf P acc n →
      wpAny (model prog w) A.in1 (call (.builtin "list.sort") [.ref h'.objs.size]) (fun _ s' => Q (.ref h'.objs.size) s') E { s with heap := h'.push { cls := .type "list", data := .seq acc }, toks := tk }) :
    wpAny (model prog w) A (call (.builtin "sorted") [.ref r]) Q E s := by
  refine Calls.call_function_entry kind_sorted plain_sorted entry_sorted (args_sorted1 _) ?_
  unfold Builtin.«sorted»
  refine wpAny_bind (m := checkCount "sorted" 1 1 _) (wpAny_pure ?_)
  refine wpAny_bind (collect_kdl (A := A.in1) K hh hok hn fun h' tk acc hk hlt hacc => ?_)
  refine wpAny_bind (wpAny_newList ?_ (by rw [Array.length_toList, hacc.1]; exact hn))
  have hg := h h' tk acc hk hlt hacc
  refine wpAny_bind (wpAny_holding (wpAny_mono hg (fun _ s' x => ?_) fun _ _ e => e))
  exact wpAny_pure ⟨_, rfl, x⟩
end
theorem each_map_ref : ∀ (bs : List Addr), PySem.W.EachIs (fun v b => v = Value.ref b) (bs.map Value.ref) bs
  | [] => .nil
  | _ :: bs => .cons rfl (each_map_ref bs)
/-- the three numbers at b -/
def tri3 (H : Hp) (b : Addr) : Int × Int × Int := match H b with
  | some (.tup [.int i, .int k, .int l]) => (i, k, l)
  | _ => (0, 0, 0)
theorem tri3_eq {H : Hp} {b : Addr} {i k l : Int} (h : T3 H b i k l) : tri3 H b = (i, k, l) := by
  have h : H b = some (.tup [.int i, .int k, .int l]) := h
  unfold tri3
  rw [h]
theorem paired_mem {α β : Type} {R : α → β → Prop} {l : List α} {m : List β} (h : Paired R l m) : ∀ b ∈ m, ∃ a ∈ l, R a b := by
  induction h with
  | nil => intro b hb; simp at hb
  | cons r _ ih =>
    intro b hb
    rcases List.mem_cons.mp hb with rfl | hb
    · exact ⟨_, List.mem_cons_self, r⟩
    · obtain ⟨a, ha, q⟩ := ih b hb
      exact ⟨a, List.mem_cons_of_mem _ ha, q⟩
/-- sorted(d) of a dict by places -/
def rSortK : List V → Hp → VK → Prop := fun vs H Q => ∃ (a : Addr) (kvs : List (List L2.Key × V)), vs = [.ref a] ∧ H a = some (.dT kvs) ∧ (∀ p ∈ kvs, ∃ i k l, p.1 = k3 i k l) ∧
  ∀ (l : Addr) (bs : List Addr), (∀ b ∈ bs, ∃ p ∈ kvs, ∃ i k L, p.1 = k3 i k L ∧ T3 H b i k L) → bs.length = kvs.length → H l = none → Q (.ref l) (upd H l (.lst (bs.map V.ref)))
theorem cr_sortK {X : Cx} (hc : X.calm = true) (hu : X.A.units + 64 < cLine) : CallR X (.builtin "sorted") rSortK := by
  intro pins s σ H xs us Q I r h
  obtain ⟨a, kvs, rfl, ha, hk, q⟩ := h
  obtain rfl := Vals.ref1 r
  obtain ⟨z, hs, ks, pr, o, es, ep, ho, hx, hdt, he, hn⟩ := (show ObjOk X.prog X.w H s.heap a (.dT kvs) from I.hok a _ ha)
  have l1 : es.size = ks.length := size_of_entries he
  have l2 : kvs.length = ks.length := Paired.length pr
  refine sorted_kdl (kdl_raw hs hx hdt) (I.ok.hd hc) ho (by omega) fun h' tk acc' kp hlt it => ?_
  have ea : acc'.toList = (ks.map fun x => x.2.1).map Value.ref := by
    have hl : acc'.toList.length = ks.length := by rw [Array.length_toList, it.1]; exact l1
    apply List.ext_getElem?
    intro j
    rw [List.map_map, List.getElem?_map]
    cases hj : acc'.toList[j]? with
    | none =>
      have h1 := List.getElem?_eq_none_iff.mp hj
      rw [List.getElem?_eq_none (by omega)]
      all_goals rfl
    | some v =>
      obtain ⟨en, hen, hv⟩ := it.2 j v (by rw [← Array.getElem?_toList]; exact hj)
      have qe := entry_at he j
      rw [hen] at qe
      cases hb : ks[j]? with
      | none =>
        rw [hb] at qe
        exact nomatch (show some en = none from qe)
      | some b =>
        rw [hb] at qe
        have e2 : en = entryOfKey (tupleKind (mixKind X.prog X.w)) b := Option.some.inj qe
        rw [hv, e2]
        all_goals rfl
  have keys : ∀ b ∈ ks.map fun x => x.2.1, ∃ p ∈ kvs, ∃ i k L, p.1 = k3 i k L ∧ T3 H b i k L := fun b hb => by
    obtain ⟨x, hx, rfl⟩ := List.mem_map.mp hb
    obtain ⟨p, hp, e1, e2, _⟩ := paired_mem pr x hx
    obtain ⟨i, k, L, e⟩ := hk p hp
    refine ⟨p, hp, i, k, L, e, ?_⟩
    rw [e] at e2
    exact e2
  generalize hbs : (ks.map fun x => x.2.1) = bs at ea keys
  have lbs : bs.length = ks.length := by rw [← hbs]; simp
  have e3 : (({ s with heap := h'.push { cls := .type "list", data := .seq acc' }, toks := tk } : Shared).heap).get? h'.objs.size = some (seqObj "list" (bs.map Value.ref).toArray 0) := by
    rw [← ea, Array.toArray_toList]
    exact Heap.get?_push_size _ rfl
  have kp2 : ∀ b o, s.heap.get? b = some o → (h'.push { cls := .type "list", data := .seq acc' }).get? b = some o := fun b o e => Heap.get?_push_of_some _ (kp b o e)
  refine PySem.W.list_sort_data (β := Addr) (R := fun v b => v = Value.ref b) (bs := bs) (enc := fun b => .tuple [.int (tri3 H b).1, .int (tri3 H b).2.1, .int (tri3 H b).2.2]) e3 (each_map_ref bs) ?_ (.of fun b b' => by rfl) (.tuples fun b => ⟨_, _, rfl⟩) (by omega) (fun b _ => ?_) fun out hlen hout => ?_
  · have go : ∀ cs : List Addr, (∀ b ∈ cs, b ∈ bs) → PySem.W.EachIs (fun v b => ∃ as, Reads (h'.push { cls := .type "list", data := .seq acc' }) v (.tuple [.int (tri3 H b).1, .int (tri3 H b).2.1, .int (tri3 H b).2.2]) as ∧ h'.objs.size ∉ as) (cs.map Value.ref) cs := by
      intro cs
      induction cs with
      | nil => intro _; exact .nil
      | cons b cs ih =>
        intro hm
        obtain ⟨p, hp, i, k, L, e1, e2⟩ := keys b (hm b List.mem_cons_self)
        refine .cons ?_ (ih fun c hc => hm c (List.mem_cons_of_mem _ hc))
        obtain ⟨its, rv, ⟨ob, h1, h2, n, h3⟩, _⟩ := I.tuple (SqT.of e2)
        rw [tri3_eq e2]
        cases rv with
        | cons r0 rv =>
        cases rv with
        | cons r1 rv =>
        cases rv with
        | cons r2 rv =>
        cases rv
        obtain ⟨t0, rfl⟩ := r0
        obtain ⟨t1, rfl⟩ := r1
        obtain ⟨t2, rfl⟩ := r2
        exact ⟨_, Reads.tuple (kp2 _ _ h1) h2 h3 (.cons (.int _ _) (.cons (.int _ _) (.cons (.int _ _) .nil))), by simp⟩
    exact go bs fun b h => h
  · have e1 : PyData.depth (.tuple [.int (tri3 H b).1, .int (tri3 H b).2.1, .int (tri3 H b).2.2]) = 1 := rfl
    show X.A.units + 1 + 1 + PyData.depth (.tuple [.int (tri3 H b).1, .int (tri3 H b).2.1, .int (tri3 H b).2.2]) < cLine
    omega
  · rw [refs_each hout]
    obtain ⟨c, hc'⟩ := sortedHeap_at (out := (((bs.mergeSort (PySem.W.dataLe false fun b => .tuple [.int (tri3 H b).1, .int (tri3 H b).2.1, .int (tri3 H b).2.2])).map Value.ref).toArray)) e3
    have nf : s.heap.objs.size ≤ h'.objs.size := Nat.le_of_lt hlt
    refine ⟨.ref _, upd H h'.objs.size (.lst ((bs.mergeSort (PySem.W.dataLe false fun b => .tuple [.int (tri3 H b).1, .int (tri3 H b).2.1, .int (tri3 H b).2.2])).map V.ref)), I.laid (t' := tk) (fun b o e => ?_) nf ⟨?_, _, _, refs_vals _, hc'⟩, rfl, q _ _ (fun b hb => keys b ((List.mergeSort_perm _ _).mem_iff.mp hb)) ?_ (I.hok.fresh nf)⟩
    · exact (sortedHeap_old (Nat.ne_of_lt (Nat.lt_of_lt_of_le (Heap.lt_size e) nf)) (Heap.lt_size (kp2 b o e))).trans (kp2 b o e)
    · rw [List.length_map, (List.mergeSort_perm _ _).length_eq]; omega
    · rw [(List.mergeSort_perm _ _).length_eq]; omega
end
section
/-! ### d.setdefault(y, z), keys tuples -/
def tDSetdT (td ty tx : TE) : TE := fun σ H Q => td σ H fun x H1 => ∃ a, x = .ref a ∧ IsD H1 a ∧ ty σ H1 fun y H2 => tx σ H2 fun z H3 => ∃ (kvs : List (List L2.Key × V)) (k : List L2.Key) (b : Addr), H3 a = some (.dT kvs) ∧ y = .ref b ∧ H3 b = some (.tup (k.map kV)) ∧ kvs.length < sizeLine ∧
  (∀ v, valV kvs k = some v → Q v H3) ∧ (valV kvs k = none → Q z (upd H3 a (.dT (putK kvs k z))))
theorem d_setdT {X : Cx} {pins : List (Addr × Obj)} {σ : L2.St} {H : Hp} {s : Shared} {a b : Addr} {r : Value} {d : V} {k : List L2.Key} {E : Value → Shared → Prop} {kvs : List (List L2.Key × V)} {Q : Value → Shared → Prop} (hu : X.A.units + 1 < cLine) (I : Inv X pins σ H s) (e : H a = some (.dT kvs)) (eb : H b = some (.tup (k.map kV))) (rd : L2.RelV d r) (hl : kvs.length < sizeLine)
    (h1 : ∀ v, valV kvs k = some v → ∀ (w' : Value) (s' : Shared), Inv X pins σ H s' → L2.RelV v w' → Q w' s') (h2 : valV kvs k = none → ∀ (w' : Value) (s' : Shared), Inv X pins σ (upd H a (.dT (putK kvs k d))) s' → L2.RelV d w' → Q w' s') :
    wpAny (model X.prog X.w) X.A (call (.builtin "dict.setdefault") [.ref a, .ref b, r]) Q E s := by
  obtain ⟨z, hd, xs, rel, dd⟩ := dt_of I.hok e
  have hz : xs.length ≤ sizeLine := by rw [← Paired.length rel]; exact z
  have q := rel.val k
  refine call_setdefault_heap (hsz := hz) (tupleKind_room_in1 hu) (key_of I.hok eb) hd dd (fun p hp => ?_) (fun hn h' dd' hs => ?_)
  · rw [hp] at q
    cases q0 : valV kvs k with
    | none =>
      rw [q0] at q
      exact (show False from q).elim
    | some v0 =>
      rw [q0] at q
      exact h1 v0 q0 _ _ (I.tok _) q
  · rw [hn] at q
    cases q0 : valV kvs k with
    | some v0 =>
      rw [q0] at q
      exact (show False from q).elim
    | none =>
      have hl2 : (putK kvs k d).length ≤ sizeLine := by
        have := length_putK kvs k d
        omega
      obtain ⟨o, es, ep, hq, h2', h3, h4, _, h5⟩ := dd'
      refine h2 q0 _ _ (d_write I (by rw [e]; exact True.intro) hs ⟨o, hq⟩ ⟨hl2, hd, _, (rel.put k eb rd).keeps fun c ys ec => ?_, o, es, ep, hq, h2', h3, h4, h5⟩) rd
      rw [upd_ne (ne_of ec e (fun z => nomatch z))]
      exact ec
section
variable {X : Cx} {o e f : Expr} {td ty tx : TE} {apos cpos : Pos}
theorem pe_dsetdT (hu : X.A.units + 1 < cLine) (ho : PE X o td) (he : PE X e ty) (hf : PE X f tx) (m : M2 X o "setdefault" apos e f cpos) : PE X (.Call (.Attribute o "setdefault" apos) [e, f] [] cpos) (tDSetdT td ty tx) := by
  refine ⟨fun pins s σ H Q I h => ?_⟩
  refine wpAny_Call_method m.base m.few m.line PySem.F.plainAttrs_dict PySem.F.slot_dict_setdefault PySem.F.type_dict_setdefault (thn (ho.run pins s σ H _ I h) fun u s1 ⟨x, H1, I1, rx, a, ex, d, q1⟩ => ?_)
  subst ex
  obtain rfl : u = Value.ref a := rx
  obtain ⟨t1, t2, _⟩ := isD_at I1 d
  refine ⟨t1, t2, ?_⟩
  rw [m.trees]
  refine Calls.callWith_builtin rfl (Calls.evalArgs_plain (Calls.spliced_cons (thn (he.run pins s1 σ H1 _ I1 q1) fun iv s2 ⟨y, H2, I2, ry, q2⟩ =>
    Calls.spliced_cons (thn (hf.run pins s2 σ H2 _ I2 q2) fun fv s3 ⟨z, H3, I3, rz, kvs, k, b, ea, ey, eb, hl, q3, q4⟩ => Calls.spliced_nil ?_))))
  subst ey
  obtain rfl : iv = Value.ref b := ry
  exact d_setdT hu I3 ea eb rz hl (fun v hv w' s4 I4 rw' => ⟨v, _, I4, rw', q3 v hv⟩) fun hn w' s4 I4 rw' => ⟨z, _, I4, rw', q4 hn⟩
end
theorem i_dsetd {td ty tx : TE} {σ : L2.St} {H : Hp} {Q : VK} (h : td σ H fun x H1 => ∃ a, x = .ref a ∧ IsD H1 a ∧ ty σ H1 fun y H2 => tx σ H2 fun z H3 => ∃ (kvs : List (List L2.Key × V)) (k : List L2.Key) (b : Addr), H3 a = some (.dT kvs) ∧ y = .ref b ∧ H3 b = some (.tup (k.map kV)) ∧ kvs.length < sizeLine ∧
  (∀ v, valV kvs k = some v → Q v H3) ∧ (valV kvs k = none → Q z (upd H3 a (.dT (putK kvs k z))))) : tDSetdT td ty tx σ H Q := h
theorem mem_putK {κ : Type} [DecidableEq κ] {kvs : List (κ × V)} {k : κ} {v : V} {p : κ × V} (h : p ∈ putK kvs k v) : p ∈ kvs ∨ p = (k, v) := by
  unfold putK at h
  split at h
  · obtain ⟨q, hq, e⟩ := List.mem_map.mp h
    split at e
    · rename_i hk
      rw [← e, hk]
      exact .inr rfl
    · rw [← e]; exact .inl hq
  · rcases List.mem_append.mp h with h | h
    · exact .inl h
    · exact .inr (List.mem_singleton.mp h)
theorem valV_mem {κ : Type} [DecidableEq κ] {kvs : List (κ × V)} {k : κ} {v : V} (h : valV kvs k = some v) : (k, v) ∈ kvs := by
  unfold valV at h
  obtain ⟨p, hp, e⟩ := Option.map_eq_some_iff.mp h
  have h1 := List.mem_of_find?_eq_some hp
  have h2 : p.1 = k := by simpa using List.find?_some hp
  rw [← h2, ← e]
  exact h1
theorem valV_has {κ : Type} [DecidableEq κ] {kvs : List (κ × V)} {p : κ × V} (h : p ∈ kvs) : ∃ v, valV kvs p.1 = some v := by
  cases e : valV kvs p.1 with
  | some v => exact ⟨v, rfl⟩
  | none =>
    unfold valV at e
    have := List.find?_eq_none.mp (Option.map_eq_none_iff.mp e) p h
    simp at this
/-- places' owners -/
def OwK (kvs : List (List L2.Key × V)) : Prop := ∀ p ∈ kvs, ∃ (i k L n : Int), p = (k3 i k L, V.int n)
theorem OwK.put {kvs : List (List L2.Key × V)} (h : OwK kvs) (i k L n : Int) : OwK (putK kvs (k3 i k L) (.int n)) := fun p hp => by
  rcases mem_putK hp with hp | rfl
  · exact h p hp
  · exact ⟨i, k, L, n, rfl⟩
abbrev InOw (kvs : List (List L2.Key × V)) (i k L : Int) : Prop := ∃ n, valV kvs (k3 i k L) = some (.int n)
theorem OwK.has {kvs : List (List L2.Key × V)} (h : OwK kvs) {p : List L2.Key × V} (hp : p ∈ kvs) {i k L : Int} (e : p.1 = k3 i k L) : InOw kvs i k L := by
  obtain ⟨v, hv⟩ := valV_has hp
  rw [e] at hv
  obtain ⟨i', k', L', n, e2⟩ := h _ (valV_mem hv)
  cases e2
  exact ⟨n, hv⟩
end
section
local macro_rules | `(tactic| wtm_at "go1") => `(tactic| first
  | with_reducible refine i_dcT ?_
  | with_reducible refine i_callM ?_
  | ((with_reducible show rAppend (V.ref _) _ _ _); refine i_append (by wtm_at "hp") (szb (by omega)) ?_)
  | ((with_reducible show ∃ _, ∃ _, ∃ _, V.ref _ = _ ∧ _ ∧ _ ∧ _); refine i_self (by wtm_at "hp") (by rfl) ?_))
def sp_owners (_ : PySem.W.Frag) : Sp := fun vs H Q _ => ∃ (l : Addr) (fs : List V) (P : Int → Int → Int → Prop), vs = [.ref l] ∧ H l = some (.lst fs) ∧ fs.length ≤ 115200 ∧ (∀ y ∈ fs, PtAt P H y) ∧
  ∀ (r : Addr) (okvs : List (List L2.Key × V)) H', H r = none → Same H H' → H' r = some (.dT okvs) → OwK okvs → okvs.length ≤ 2764800 → Q (.ref r) H'
abbrev s_owners : Stmt := topS 13
abbrev N_owners : List Str := ["plates", "found", "at", "place"]
theorem sc_owners : FnScope N_owners ["plates"] (defScope s_owners) := ⟨rfl, rfl, rfl, by decide +kernel, rfl, by decide +kernel, by decide +kernel⟩
theorem bd_owners : BindsOf ["plates"] "owners" "owners" s_owners := fun _ _ _ _ _ _ us hl => match us, hl with | [_], _ => rfl
theorem cal_owners {P : Program} {w : World} {K : PySem.W.Frag} {mg : Str → Option Value} {base : Heap} (T : Tx K mg) : Cal P w K mg base "owners" 2 ["plates"] (sp_owners K) := by
  refine T.owners.cal sc_owners bd_owners (fun vs H Q E h => ?_) (fun f cdv A outer s H vs Q E hr h => ?_)
  · obtain ⟨l, fs, P, rfl, hl, lf, pt, kk⟩ := h; rfl
  · have hu := hu_of hr
    obtain ⟨l, fs, P, rfl, hl, lf, pt, kk⟩ := h
    refine ⟨_, (pss_cons (ps_set (i := 1) sc_owners.nd rfl (.inl rfl) pe_dnewT)
      (pss_cons (ps_for PassesOwn.never rfl (pi_range1 (by rfl) T.range (pa_cons (pe_callB (c_len K) (by rfl) T.len PySem.boot_len (pa_cons (pv 0) pa_nil)) pa_nil)) (pg_name (i := 2) sc_owners.nd rfl (.inl rfl)) (pss_one (ps_for PassesOwn.never rfl (pi_list (pe_callC (cal_plate_floors (K := K) T) (hr.mono (by decide)) (by rfl) (pa_cons (pe_ix (x_list K) (pv 0) (pv 2) (fun _ _ => rfl)) pa_nil))) (pg_name (i := 3) sc_owners.nd rfl (.inl rfl)) (pss_one (ps_dput hu (pv 1) (pv 3) (pv 2) rfl)))))
      (pss_one (ps_ret (pv 1))))), ?_⟩
    change (_ : TS) _ [some _, none, none, none] H
    wtm_at "go"
    rename_i U hU
    refine i_lenL (by wtm_at "hp") ?_
    wtm_at "go"
    rw [show ((fs.length : Nat) : Int).toNat = fs.length by simp]
    refine for_range (fun n σ H' => (∃ y2 y3, σ = [some (.ref l), some (.ref U), y2, y3]) ∧ Bt U H H' ∧ ∃ us : List (List L2.Key × V), H' U = some (.dT us) ∧ OwK us ∧ us.length ≤ n * 24)
      ⟨⟨_, _, rfl⟩, Bt.of (same_new hU), [], upd_same, fun p h => absurd h (by simp), Nat.zero_le _⟩ (fun n σ H2 hn h2 => ?_) (fun σ H2 h2 => ?_)
    · obtain ⟨⟨y2, y3, rfl⟩, b2, us, hU2, ow, lu⟩ := h2
      have nl : l ≠ U := ne_of_none hl hU
      have hl2 := b2 _ _ nl hl
      have tk2 : Tk H H2 := fun a xs h => b2 _ _ (ne_of_none h hU) h
      have hx := at_nat (i := n) (List.getElem?_eq_getElem hn)
      wtm_at "go"
      refine do_plate_floors (P := P) ((pt _ (List.getElem_mem hn)).tt tk2) fun r ys H3 s3 hr3 ly ey => ?_
      wtm_at "go"
      have hU3 := s3 _ _ hU2
      have nr : r ≠ U := ne_of hr3 hU3 (by intro z; cases z)
      refine for_list (xs := ys) (fun j σ H' => (∃ y3, σ = [some (.ref l), some (.ref U), some (.int (0 + (n : Int))), y3]) ∧ Bt U H3 H' ∧ ∃ us : List (List L2.Key × V), H' U = some (.dT us) ∧ OwK us ∧ us.length ≤ n * 24 + j)
        ⟨⟨_, rfl⟩, Bt.refl, us, hU3, ow, by omega⟩ (fun j σ H' _ h' => SqL.of (h'.2.1 _ _ nr hr3)) (fun j x σ H4 hx4 h4 => ?_) (fun σ H4 h4 => ?_)
      · obtain ⟨⟨y3, rfl⟩, b4, us, hU4, ow4, lu4⟩ := h4
        obtain ⟨q, i, k, L, rfl, hq, pq⟩ := ey x (List.mem_of_getElem? hx4)
        have hj : j < 24 := by have := (List.getElem?_eq_some_iff.mp hx4).1; omega
        have hq4 := b4 _ _ (ne_of hq hU3 (by intro z; cases z)) hq
        wtm_at "go"
        refine i_putT (k := k3 i k L) hU4 hq4 (szb (by omega)) ?_
        exact ⟨⟨_, rfl⟩, b4.trans Bt.upd, _, upd_same, ow4.put _ _ _ _, Nat.le_trans (length_putK _ _ _) (by omega)⟩
      · obtain ⟨⟨y3, rfl⟩, b4, us, hU4, ow4, lu4⟩ := h4
        exact ⟨⟨_, _, rfl⟩, b2.trans ((Bt.of s3).trans b4), us, hU4, ow4, by omega⟩
    · obtain ⟨⟨y2, y3, rfl⟩, b2, us, hU2, ow, lu⟩ := h2
      wtm_at "go"
      exact kk U us _ hU (fun b o h => b2 _ _ (ne_of_none h hU) h) hU2 ow (by omega)
theorem do_owners {K : PySem.W.Frag} {H : Hp} {Q : VK} {l : Addr} {fs : List V} {P : Int → Int → Int → Prop} (hl : H l = some (.lst fs)) (lf : fs.length ≤ 115200) (pt : ∀ y ∈ fs, PtAt P H y)
    (kk : ∀ (r : Addr) (okvs : List (List L2.Key × V)) H', H r = none → Same H H' → H' r = some (.dT okvs) → OwK okvs → okvs.length ≤ 2764800 → Q (.ref r) H') : sp_owners K [.ref l] H Q E0 := ⟨l, fs, P, rfl, hl, lf, pt, kk⟩
def sp_gathered (_ : PySem.W.Frag) : Sp := fun vs H Q _ => ∃ (o : Addr) (okvs : List (List L2.Key × V)), vs = [.ref o] ∧ H o = some (.dT okvs) ∧ OwK okvs ∧ okvs.length ≤ 2764800 ∧
  ∀ (r : Addr) (kvs : List (List L2.Key × V)) H', Same H H' → H' r = some (.dT kvs) → FlK (InOw okvs) 2764800 H' kvs → Q (.ref r) H'
abbrev s_gathered : Stmt := topS 14
abbrev N_gathered : List Str := ["owner", "found", "i", "k", "level"]
theorem sc_gathered : FnScope N_gathered ["owner"] (defScope s_gathered) := ⟨rfl, rfl, rfl, by decide +kernel, rfl, by decide +kernel, by decide +kernel⟩
theorem bd_gathered : BindsOf ["owner"] "gathered" "gathered" s_gathered := fun _ _ _ _ _ _ us hl => match us, hl with | [_], _ => rfl
theorem cal_gathered {P : Program} {w : World} {K : PySem.W.Frag} {mg : Str → Option Value} {base : Heap} (T : Tx K mg) : Cal P w K mg base "gathered" 1 ["owner"] (sp_gathered K) := by
  refine T.gathered.cal sc_gathered bd_gathered (fun vs H Q E h => ?_) (fun f cdv A outer s H vs Q E hr h => ?_)
  · obtain ⟨o, okvs, rfl, ho, ow, lo, kk⟩ := h; rfl
  · have hu := hu_of hr
    obtain ⟨o, okvs, rfl, ho, ow, lo, kk⟩ := h
    refine ⟨_, (pss_cons (ps_set (i := 1) sc_gathered.nd rfl (.inl rfl) pe_dnewT)
      (pss_cons (ps_for PassesOwn.never rfl (pi_list (pe_callB (cr_sortK rfl (hu64 hr)) (by rfl) T.sorted b_sorted (pa_cons (pv 0) pa_nil))) (pg_tup rfl (pgs_cons (pg_name (i := 2) sc_gathered.nd rfl (.inl rfl)) (pgs_cons (pg_name (i := 3) sc_gathered.nd rfl (.inl rfl)) (pgs_cons (pg_name (i := 4) sc_gathered.nd rfl (.inl rfl)) pgs_nil)))) (pss_one (ps_expr (pe_bm PySem.F.plainAttrs_list PySem.F.slot_list_append PySem.F.type_list_append mt_append (pe_dsetdT hu (pv 1) (pe_tup (pa_cons (pv 2) (pa_cons (pv 3) pa_nil))) (pe_lst pa_nil) ⟨rfl, rfl, rfl, rfl⟩) (pa_cons (pv 4) pa_nil)))))
      (pss_one (ps_ret (pv 1))))), ?_⟩
    change (_ : TS) _ [some _, none, none, none, none] H
    wtm_at "go"
    rename_i G hG
    refine ⟨o, okvs, rfl, upd_new hG ho, fun p hp => by obtain ⟨i, k, L, n, e⟩ := ow p hp; exact ⟨i, k, L, by rw [e]⟩, fun S bs hbs lbs hS => ?_⟩
    wtm_at "go"
    have hG1 : (upd (upd H G (.dT [])) S (.lst (bs.map V.ref))) G = some (.dT []) := upd_new hS upd_same
    have s01 : Same H (upd (upd H G (.dT [])) S (.lst (bs.map V.ref))) := (same_new hG).trans (same_new hS)
    have hS1 : (upd (upd H G (.dT [])) S (.lst (bs.map V.ref))) S = some (.lst (bs.map V.ref)) := upd_same
    have hb1 : ∀ b ∈ bs, ∃ i k L, InOw okvs i k L ∧ T3 (upd (upd H G (.dT [])) S (.lst (bs.map V.ref))) b i k L := fun b hb => by
      obtain ⟨p, hp, i, k, L, e, h3⟩ := hbs b hb
      exact ⟨i, k, L, ow.has hp e, upd_new hS h3⟩
    generalize upd (upd H G (.dT [])) S (.lst (bs.map V.ref)) = H1 at hG1 s01 hS1 hb1
    have nS : S ≠ G := ne_of hS1 hG1 (by intro z; cases z)
    refine for_list (xs := bs.map V.ref) (fun n σ H' => (∃ y2 y3 y4, σ = [some (.ref o), some (.ref G), y2, y3, y4]) ∧ Bt G H1 H' ∧ ∃ kvs : List (List L2.Key × V), H' G = some (.dT kvs) ∧ kvs.length ≤ n ∧ FlK (InOw okvs) n H' kvs ∧
        (∀ i k l, valV kvs (k2 i k) = some (.ref l) → H1 l = none) ∧ ∀ i k i' k' l, valV kvs (k2 i k) = some (.ref l) → valV kvs (k2 i' k') = some (.ref l) → i = i' ∧ k = k')
      ⟨⟨_, _, _, rfl⟩, Bt.refl, [], hG1, Nat.le_refl _, fun i k v h => by simp [valV_nil] at h, fun i k l h => by simp [valV_nil] at h, fun i k i' k' l h => by simp [valV_nil] at h⟩ (fun n σ H' _ h' => SqL.of (h'.2.1 _ _ nS hS1)) (fun n x σ H2 hx h2 => ?_) (fun σ H2 h2 => ?_)
    · obtain ⟨⟨y2, y3, y4, rfl⟩, b2, kvs, hG2, lk, fk, fr, inj⟩ := h2
      obtain ⟨b, hb, rfl⟩ : ∃ b, bs[n]? = some b ∧ V.ref b = x := by simpa using hx
      have hn : n < 2764800 := by have := (List.getElem?_eq_some_iff.mp hb).1; omega
      obtain ⟨i, k, L, io, h3⟩ := hb1 b (List.mem_of_getElem? hb)
      have h32 := b2 _ _ (ne_of h3 hG1 (by intro z; cases z)) h3
      wtm_at "go"
      refine i_dsetd ?_
      wtm_at "go"
      refine ⟨G, rfl, .inr ⟨_, .inl hG2⟩, ?_⟩
      wtm_at "go"
      rename_i t ht e he
      have s24 : Same H2 (upd (upd H2 t (.tup [.int i, .int k])) e (.lst [])) := (same_new ht).trans (same_new he)
      have b14 : Bt G H1 (upd (upd H2 t (.tup [.int i, .int k])) e (.lst [])) := b2.trans (Bt.of s24)
      have hG4 := s24 _ _ hG2
      have fk4 := fk.lk (Lk.of s24)
      have ht4 : (upd (upd H2 t (.tup [.int i, .int k])) e (.lst [])) t = some (.tup ((k2 i k).map kV)) := upd_new he upd_same
      have he4 : (upd (upd H2 t (.tup [.int i, .int k])) e (.lst [])) e = some (.lst []) := upd_same
      have ne2 : H2 e = none := none_of (same_new ht) he
      have ne1 : H1 e = none := by
        cases q : H1 e with
        | none => rfl
        | some u =>
          by_cases z : e = G
          · rw [z, hG2] at ne2; cases ne2
          · rw [b2 _ _ z q] at ne2; cases ne2
      have neK : ∀ i' k', valV kvs (k2 i' k') ≠ some (.ref e) := fun i' k' h => by
        obtain ⟨l, ns, e1, e2, _⟩ := fk _ _ _ h
        cases e1
        rw [ne2] at e2; cases e2
      generalize upd (upd H2 t (.tup [.int i, .int k])) e (.lst []) = H4 at s24 b14 hG4 fk4 ht4 he4
      refine ⟨kvs, k2 i k, t, hG4, rfl, ht4, szb (by omega), fun v hv => ?_, fun hv => ?_⟩
      · obtain ⟨l, ns, rfl, hl, ln, en⟩ := fk4 _ _ _ hv
        have nlG : l ≠ G := ne_of hl hG4 (by intro z; cases z)
        have lnm : (ns.map V.int).length ≤ 10000000 := by simp; omega
        wtm_at "go"
        refine ⟨⟨_, _, _, rfl⟩, fun bb o n1 hb' => ?_, kvs, by rw [upd_ne nlG.symm]; exact hG4, by omega, fun i' k' v' hv' => ?_, fr, inj⟩
        · rw [upd_ne (ne_of_none hb' (fr _ _ _ hv))]
          exact b14 _ _ n1 hb'
        · obtain ⟨l', ns', rfl, hl', ln', en'⟩ := fk4 _ _ _ hv'
          by_cases z : l' = l
          · rw [z] at hv'
            obtain ⟨rfl, rfl⟩ := inj _ _ _ _ _ hv' hv
            refine ⟨l', ns ++ [L], rfl, by rw [z, upd_same]; simp, by simp; omega, fun L' hL' => ?_⟩
            rcases List.mem_append.mp hL' with h | h
            · exact en L' h
            · rw [List.mem_singleton.mp h]; exact io
          · exact ⟨l', ns', rfl, by rw [upd_ne z]; exact hl', by omega, en'⟩
      · have nlG : e ≠ G := ne_of he4 hG4 (by intro z; cases z)
        have z0 : ([] : List V).length ≤ 1000 := by simp
        have he5 : (upd H4 G (.dT (putK kvs (k2 i k) (.ref e)))) e = some (.lst []) := by rw [upd_ne nlG]; exact he4
        wtm_at "go"
        refine ⟨⟨_, _, _, rfl⟩, fun bb o n1 hb' => ?_, _, by rw [upd_ne nlG.symm, upd_same], Nat.le_trans (length_putK _ _ _) (by omega), fun i' k' v' hv' => ?_, fun i' k' l' h' => ?_, fun i' k' i2 k2' l' h' h2' => ?_⟩
        · rw [upd_ne (ne_of_none hb' ne1), upd_ne n1]
          exact b14 _ _ n1 hb'
        · rw [valV_put] at hv'
          split at hv'
          · rename_i ek
            have ek : i' = i ∧ k' = k := by simpa using ek
            obtain ⟨rfl, rfl⟩ := ek
            cases hv'
            exact ⟨e, [L], rfl, by rw [upd_same]; rfl, by simp, fun L' hL' => by rw [List.mem_singleton.mp hL']; exact io⟩
          · obtain ⟨l', ns', rfl, hl', ln', en'⟩ := fk4 _ _ _ hv'
            have z : l' ≠ e := fun z => neK _ _ (by rw [← z]; exact hv')
            have z2 : l' ≠ G := ne_of hl' hG4 (by intro z; cases z)
            exact ⟨l', ns', rfl, by rw [upd_ne z, upd_ne z2]; exact hl', by omega, en'⟩
        · rw [valV_put] at h'
          split at h'
          · cases h'; exact ne1
          · exact fr _ _ _ h'
        · rw [valV_put] at h' h2'
          split at h'
          · rename_i ek
            cases h'
            split at h2'
            · rename_i ek2
              have ek : i' = i ∧ k' = k := by simpa using ek
              have ek2 : i2 = i ∧ k2' = k := by simpa using ek2
              omega
            · exact absurd h2' (neK _ _)
          · split at h2'
            · cases h2'; exact absurd h' (neK _ _)
            · exact inj _ _ _ _ _ h' h2'
    · obtain ⟨⟨y2, y3, y4, rfl⟩, b2, kvs, hG2, lk, fk, fr, inj⟩ := h2
      wtm_at "go"
      refine kk G kvs _ (fun b o' h => b2 _ _ (ne_of_none h hG) (s01 _ _ h)) hG2 fun i k v hv => ?_
      obtain ⟨l, ns, r1, r2, r3, r4⟩ := fk i k v hv
      exact ⟨l, ns, r1, r2, by simp at r3; omega, r4⟩
theorem do_gathered {K : PySem.W.Frag} {H : Hp} {Q : VK} {o : Addr} {okvs : List (List L2.Key × V)} (ho : H o = some (.dT okvs)) (ow : OwK okvs) (lo : okvs.length ≤ 2764800)
    (kk : ∀ (r : Addr) (kvs : List (List L2.Key × V)) H', Same H H' → H' r = some (.dT kvs) → FlK (InOw okvs) 2764800 H' kvs → Q (.ref r) H') : sp_gathered K [.ref o] H Q E0 := ⟨o, okvs, rfl, ho, ow, lo, kk⟩
end
section
local macro_rules | `(tactic| wtm_at "go1") => `(tactic| first
  | with_reducible refine i_dcT ?_
  | with_reducible refine i_callM ?_
  | ((with_reducible show rAppend (V.ref _) _ _ _); refine i_append (by wtm_at "hp") (szb (by omega)) ?_)
  | ((with_reducible show ∃ _, ∃ _, ∃ _, V.ref _ = _ ∧ _ ∧ _ ∧ _); refine i_self (by wtm_at "hp") (by rfl) ?_))
def sp_border (_ : PySem.W.Frag) : Sp := fun vs H Q _ => ∃ (v : V) (side : Int) (P : Int → Int → Int → Prop), vs = [v, .int side] ∧ PtAt P H v ∧
  ∀ (r : Addr) (ys : List V) H', H r = none → Same H H' → H' r = some (.lst ys) → ys.length ≤ 24 → (∀ y ∈ ys, PlV P H' y) → Q (.ref r) H'
abbrev s_border : Stmt := topS 15
abbrev N_border : List Str := ["plate", "side", "place"]
theorem sc_border : FnScope N_border ["plate", "side"] (defScope s_border) := ⟨rfl, rfl, rfl, by decide +kernel, rfl, by decide +kernel, by decide +kernel⟩
theorem bd_border : BindsOf ["plate", "side"] "border" "border" s_border := fun _ _ _ _ _ _ us hl => match us, hl with | [_, _], _ => rfl
theorem cal_border {P : Program} {w : World} {K : PySem.W.Frag} {mg : Str → Option Value} {base : Heap} (T : Tx K mg) : Cal P w K mg base "border" 2 ["plate", "side"] (sp_border K) := by
  refine T.border.cal sc_border bd_border (fun vs H Q E h => ?_) (fun f cdv A outer s H vs Q E hr h => ?_)
  · obtain ⟨v, side, P, rfl, hv, kk⟩ := h; rfl
  · have hu := hu_of hr
    obtain ⟨v, side, P, rfl, hv, kk⟩ := h
    refine ⟨_, (pss_cons (ps_if (pt_cmpR op_eq (pv 1) pe_int (nomark _)) (pss_one (ps_ret (pe_lc (own := [("place", 2)]) rfl sc_border.nd (pi_list (pe_callC (cal_plate_floors (K := K) T) (hr.mono (by decide)) (by rfl) (pa_cons (pv 0) pa_nil))) (blkOk_by (own := [("place", 2)]) (N := N_border) (sc := defScope (topS 15)) (by decide +kernel)) (fun _ _ _ _ _ => (pg_name (i := 2) sc_border.nd rfl (.inl rfl))) (fun _ _ _ _ _ => (pts_one (pt_cmpR op_eq (pe_ix (x_tup K) (pv 2) pe_int (fun _ _ => rfl)) (pe_ix (x_tup K) (pv 0) pe_int (fun _ _ => rfl)) (nomark _)))) (fun _ _ _ _ _ => (pv 2))))) pss_nil)
      (pss_one (ps_ret (pe_lc (own := [("place", 2)]) rfl sc_border.nd (pi_list (pe_callC (cal_plate_floors (K := K) T) (hr.mono (by decide)) (by rfl) (pa_cons (pv 0) pa_nil))) (blkOk_by (own := [("place", 2)]) (N := N_border) (sc := defScope (topS 15)) (by decide +kernel)) (fun _ _ _ _ _ => (pg_name (i := 2) sc_border.nd rfl (.inl rfl))) (fun _ _ _ _ _ => (pts_one (pt_cmpR op_eq (pe_ix (x_tup K) (pv 2) pe_int (fun _ _ => rfl)) (pe_ix (x_tup K) (pv 0) pe_int (fun _ _ => rfl)) (nomark _)))) (fun _ _ _ _ _ => (pv 2)))))), ?_⟩
    change (_ : TS) _ [some _, some _, none] H
    obtain ⟨a, l, i, k, k1, w, ns, rfl, ha, hl, w1, w6, ln, en⟩ := id hv
    wtm_at "go"
    · refine do_plate_floors hv fun r ys H1 s1 hr ly ey => ?_
      refine ⟨r, rfl, ⟨_, SqL.of hr⟩, ?_⟩
      intro D hD
      refine lc_subL (fun z => z ∈ ys) hr hD (szt (by omega)) (fun j x H4 C G hj s4 kT kF => ?_) (fun zs H4 s4 hz hzl he => ?_)
      · change gName 2 _ [some _, some _, none] _ _
        have mx := List.mem_of_getElem? hj
        obtain ⟨q, i', k', L, rfl, hq, _⟩ := ey x mx
        have hq4 := s4 _ _ hq
        have ha4 := s4 _ _ (s1 _ _ ha)
        wtm_at "go"
        · exact kT _ mx _ (Same.refl _)
        · exact kF _ (Same.refl _)
      · exact kk _ _ _ (none_of s1 hD) (s1.trans s4) hz (by omega) fun y hy => (ey y (he y hy)).tt (Tk.of s4)
    · refine do_plate_floors hv fun r ys H1 s1 hr ly ey => ?_
      refine ⟨r, rfl, ⟨_, SqL.of hr⟩, ?_⟩
      intro D hD
      refine lc_subL (fun z => z ∈ ys) hr hD (szt (by omega)) (fun j x H4 C G hj s4 kT kF => ?_) (fun zs H4 s4 hz hzl he => ?_)
      · change gName 2 _ [some _, some _, none] _ _
        have mx := List.mem_of_getElem? hj
        obtain ⟨q, i', k', L, rfl, hq, _⟩ := ey x mx
        have hq4 := s4 _ _ hq
        have ha4 := s4 _ _ (s1 _ _ ha)
        wtm_at "go"
        · exact kT _ mx _ (Same.refl _)
        · exact kF _ (Same.refl _)
      · exact kk _ _ _ (none_of s1 hD) (s1.trans s4) hz (by omega) fun y hy => (ey y (he y hy)).tt (Tk.of s4)
theorem do_border {K : PySem.W.Frag} {H : Hp} {Q : VK} {v : V} {side : Int} {P : Int → Int → Int → Prop} (hv : PtAt P H v) (kk : ∀ (r : Addr) (ys : List V) H', H r = none → Same H H' → H' r = some (.lst ys) → ys.length ≤ 24 → (∀ y ∈ ys, PlV P H' y) → Q (.ref r) H') : sp_border K [v, .int side] H Q E0 := ⟨v, side, P, rfl, hv, kk⟩
def sp_portal_of (K : PySem.W.Frag) : Sp := fun vs H Q _ => ∃ (s l : Addr) (M : FpM.Me) (tl side : Int) (x y : V) (ps : List V) (P : Int → Int → Int → Prop), vs = [.ref s, .int side, x, y, .ref l] ∧ SeAt K H s M tl ∧ H l = some (.lst ps) ∧ 1 ≤ ps.length ∧ (∀ y ∈ ps, PlV P H y) ∧ Gd P ∧ ∀ v H', Same H H' → Q v H'
abbrev s_portal_of : Stmt := topS 16
abbrev N_portal_of : List Str := ["settings", "side", "at", "other", "run", "cell", "first", "last", "x", "z"]
theorem sc_portal_of : FnScope N_portal_of ["settings", "side", "at", "other", "run"] (defScope s_portal_of) := ⟨rfl, rfl, rfl, by decide +kernel, rfl, by decide +kernel, by decide +kernel⟩
theorem bd_portal_of : BindsOf ["settings", "side", "at", "other", "run"] "portal_of" "portal_of" s_portal_of := fun _ _ _ _ _ _ us hl => match us, hl with | [_, _, _, _, _], _ => rfl
theorem cal_portal_of {P : Program} {w : World} {K : PySem.W.Frag} {mg : Str → Option Value} {base : Heap} (T : Tx K mg) : Cal P w K mg base "portal_of" 1 ["settings", "side", "at", "other", "run"] (sp_portal_of K) := by
  refine T.portal_of.cal sc_portal_of bd_portal_of (fun vs H Q E h => ?_) (fun f cdv A outer s H vs Q E hr h => ?_)
  · obtain ⟨s, l, M, tl, side, x, y, ps, P, rfl, hse, hl, l1, pp, gd, kk⟩ := h; rfl
  · have hu := hu_of hr
    obtain ⟨s, l, M, tl, side, x, y, ps, P, rfl, hse, hl, l1, pp, gd, kk⟩ := h
    refine ⟨_, (pss_cons (ps_set (i := 5) sc_portal_of.nd rfl (.inl rfl) (pe_fld (pv 0) rfl))
      (pss_cons (ps_set (i := 6) sc_portal_of.nd rfl (.inl rfl) (pe_ix (x_list K) (pv 4) pe_int (fun _ _ => rfl)))
      (pss_cons (ps_set (i := 7) sc_portal_of.nd rfl (.inl rfl) (pe_ix (x_list K) (pv 4) (pe_un u_neg pe_int) (fun _ _ => rfl)))
      (pss_cons (ps_if (pt_cmpR op_eq (pv 1) pe_int (nomark _)) (pss_cons (ps_set (i := 8) sc_portal_of.nd rfl (.inl rfl) (pe_op o_mul (pe_op o_add (pe_ix (x_tup K) (pv 6) pe_int (fun _ _ => rfl)) pe_int) (pv 5)))
      (pss_one (ps_ret (pe_tup (pa_cons pe_str (pa_cons (pv 2) (pa_cons (pv 3) (pa_cons (pv 8) (pa_cons (pe_op o_mul (pe_ix (x_tup K) (pv 6) pe_int (fun _ _ => rfl)) (pv 5)) (pa_cons (pv 8) (pa_cons (pe_op o_mul (pe_op o_add (pe_ix (x_tup K) (pv 7) pe_int (fun _ _ => rfl)) pe_int) (pv 5)) pa_nil))))))))))) pss_nil)
      (pss_cons (ps_set (i := 9) sc_portal_of.nd rfl (.inl rfl) (pe_op o_mul (pe_op o_add (pe_ix (x_tup K) (pv 6) pe_int (fun _ _ => rfl)) pe_int) (pv 5)))
      (pss_one (ps_ret (pe_tup (pa_cons pe_str (pa_cons (pv 2) (pa_cons (pv 3) (pa_cons (pe_op o_mul (pe_ix (x_tup K) (pv 6) pe_int (fun _ _ => rfl)) (pv 5)) (pa_cons (pv 9) (pa_cons (pe_op o_mul (pe_op o_add (pe_ix (x_tup K) (pv 7) pe_int (fun _ _ => rfl)) pe_int) (pv 5)) (pa_cons (pv 9) pa_nil))))))))))))))), ?_⟩
    change (_ : TS) _ [some _, some _, some _, some _, some _, none, none, none, none, none] H
    have ⟨⟨dx, h1, h2, sl, e1, e2⟩, mo⟩ := hse
    have mc := mo.cell
    obtain ⟨ps0, v, rfl⟩ := snoc_of' l1
    obtain ⟨q, i, k, L, rfl, hq, pq⟩ := pp v (by simp)
    obtain ⟨f, hf0⟩ : ∃ f, (ps0 ++ [V.ref q])[0]? = some f := ⟨_, List.getElem?_eq_getElem (by simp)⟩
    obtain ⟨q', i', k', L', rfl, hq', pq'⟩ := pp f (List.mem_of_getElem? hf0)
    have g1 := gd _ _ _ pq
    have g2 := gd _ _ _ pq'
    have hx : atI (ps0 ++ [V.ref q]) 0 = some (.ref q') := atI_nat (j := 0) hf0
    wtm_at "go"
    refine i_lastL hl ?_
    wtm_at "go"
    all_goals exact kk _ _ (by wtm_at "sm")
theorem do_portal_of {K : PySem.W.Frag} {H : Hp} {Q : VK} {s l : Addr} {M : FpM.Me} {tl side : Int} {x y : V} {ps : List V} {P : Int → Int → Int → Prop} (hse : SeAt K H s M tl) (hl : H l = some (.lst ps)) (l1 : 1 ≤ ps.length) (pp : ∀ y ∈ ps, PlV P H y) (gd : Gd P) (kk : ∀ v H', Same H H' → Q v H') :
    sp_portal_of K [.ref s, .int side, x, y, .ref l] H Q E0 := ⟨s, l, M, tl, side, x, y, ps, P, rfl, hse, hl, l1, pp, gd, kk⟩
/-- a run: whose, and its places -/
def RunAt (P : Int → Int → Int → Prop) (N : Nat) (H0 H : Hp) (v : V) : Prop := ∃ (t l : Addr) (n : Int) (ps : List V), v = .ref t ∧ H t = some (.tup [.int n, .ref l]) ∧ H l = some (.lst ps) ∧ 1 ≤ ps.length ∧ ps.length ≤ N ∧ (∀ y ∈ ps, PlV P H y) ∧ H0 l = none
theorem RunAt.bt {P : Int → Int → Int → Prop} {N N' : Nat} {H0 H H' : Hp} {v : V} {R : Addr} {xs : List V} (h : RunAt P N H0 H v) (hN : N ≤ N') (b : Bt R H H') (hR : H R = some (.lst xs)) (n0 : ∃ o, H0 R = some o) : RunAt P N' H0 H' v := by
  obtain ⟨t, l, n, ps, e, h1, h2, h3, h4, h5, h6⟩ := h
  obtain ⟨o, n0⟩ := n0
  have tk : Tk H H' := fun a xs q => b _ _ (ne_of q hR (by intro z; cases z)) q
  exact ⟨t, l, n, ps, e, tk _ _ h1, b _ _ (fun z => by rw [z, n0] at h6; cases h6) h2, h3, Nat.le_trans h4 hN, fun y hy => (h5 y hy).tt tk, h6⟩
/-- a place is added to the list l' of a run -/
theorem RunAt.add {P : Int → Int → Int → Prop} {N : Nat} {H0 H : Hp} {v y : V} {l' : Addr} {qs : List V} (h : RunAt P N H0 H v) (hl : H l' = some (.lst qs)) (q1 : qs.length ≤ N) (q5 : ∀ y ∈ qs, PlV P H y) (hy : PlV P H y) : RunAt P (N + 1) H0 (upd H l' (.lst (qs ++ [y]))) v := by
  obtain ⟨t, l, n, ps, e, h1, h2, h3, h4, h5, h6⟩ := h
  have tk : Tk H (upd H l' (.lst (qs ++ [y]))) := Tk.lst hl
  by_cases z : l = l'
  · subst z
    refine ⟨t, l, n, qs ++ [y], e, tk _ _ h1, upd_same, by simp, by simp; omega, fun w hw => ?_, h6⟩
    rcases List.mem_append.mp hw with hw | hw
    · exact (q5 w hw).tt tk
    · rw [List.mem_singleton.mp hw]; exact hy.tt tk
  · exact ⟨t, l, n, ps, e, tk _ _ h1, by rw [upd_ne z]; exact h2, h3, Nat.le_succ_of_le h4, fun y hy => (h5 y hy).tt tk, h6⟩
def IntN (v : V) : Prop := v = .non ∨ ∃ n : Int, v = .int n
def sp_side_portals (K : PySem.W.Frag) : Sp := fun vs H Q _ => ∃ (s d o : Addr) (plv : V) (M : FpM.Me) (tl side at_ : Int) (P : Int → Int → Int → Prop) (B : Nat) (okvs kvs : List (List L2.Key × V)), vs = [.ref s, .ref d, .ref o, plv, .int at_, .int side] ∧ SeAt K H s M tl ∧ H o = some (.dT okvs) ∧ H d = some (.dT kvs) ∧ FlK (InOw okvs) B H kvs ∧ PtAt P H plv ∧ Gd P ∧
  ∀ (r : Addr) (zs : List V) H', H r = none → Same H H' → H' r = some (.lst zs) → zs.length ≤ 24 → Q (.ref r) H'
abbrev s_side_portals : Stmt := topS 17
abbrev N_side_portals : List Str := ["settings", "floors", "owner", "plate", "at", "side", "runs", "before", "place", "other", "mine", "run"]
theorem sc_side_portals : FnScope N_side_portals ["settings", "floors", "owner", "plate", "at", "side"] (defScope s_side_portals) := ⟨rfl, rfl, rfl, by decide +kernel, rfl, by decide +kernel, by decide +kernel⟩
theorem bd_side_portals : BindsOf ["settings", "floors", "owner", "plate", "at", "side"] "side_portals" "side_portals" s_side_portals := fun _ _ _ _ _ _ us hl => match us, hl with | [_, _, _, _, _, _], _ => rfl
theorem cal_side_portals {P : Program} {w : World} {K : PySem.W.Frag} {mg : Str → Option Value} {base : Heap} (T : Tx K mg) : Cal P w K mg base "side_portals" 3 ["settings", "floors", "owner", "plate", "at", "side"] (sp_side_portals K) := by
  refine T.side_portals.cal sc_side_portals bd_side_portals (fun vs H Q E h => ?_) (fun f cdv A outer s H vs Q E hr h => ?_)
  · obtain ⟨s, d, o, plv, M, tl, side, at_, P, B, okvs, kvs, rfl, hse, ho, hd, fk, hp, gd, kk⟩ := h; rfl
  · have hu := hu_of hr
    obtain ⟨s, d, o, plv, M, tl, side, at_, P, B, okvs, kvs, rfl, hse, ho, hd, fk, hp, gd, kk⟩ := h
    refine ⟨_, (pss_cons (ps_set (i := 6) sc_side_portals.nd rfl (.inl rfl) (pe_lst pa_nil))
      (pss_cons (ps_set (i := 7) sc_side_portals.nd rfl (.inl rfl) pe_non)
      (pss_cons (ps_for PassesOwn.never rfl (pi_list (pe_callC (cal_border (K := K) T) (hr.mono (by decide)) (by rfl) (pa_cons (pv 3) (pa_cons (pv 5) pa_nil)))) (pg_name (i := 8) sc_side_portals.nd rfl (.inl rfl)) (pss_cons (ps_set (i := 9) sc_side_portals.nd rfl (.inl rfl) (pe_callC (cal_partner (K := K) T) (hr.mono (by decide)) (by rfl) (pa_cons (pv 0) (pa_cons (pv 1) (pa_cons (pv 8) (pa_cons (pe_op o_sub pe_int (pv 5)) (pa_cons (pv 5) pa_nil)))))))
      (Evl.pss_cut (ps_set (i := 10) sc_side_portals.nd rfl (.inl rfl) (pe_ifExp (pt_cmpR op_isN1 (pv 9) pe_non (nomark _)) pe_non (pe_dget hu (pv 2) (pv 9) (fun _ _ => rfl))))
      (Evl.pss_cut (ps_if (PW.pt (pw_and (pt_cmpR op_notN1 (pv 10) pe_non (nomark _)) (pw_and1 (pt_cmpR op_eq (pv 10) (pv 7) (nomark _))))) (pss_one (ps_expr (pe_bm PySem.F.plainAttrs_list PySem.F.slot_list_append PySem.F.type_list_append mt_append (pe_ix (x_tup K) (pe_ix (x_list K) (pv 6) (pe_un u_neg pe_int) (fun _ _ => rfl)) pe_int (fun _ _ => rfl)) (pa_cons (pv 8) pa_nil)))) (pss_one (ps_if (pt_cmpR op_notN1 (pv 10) pe_non (nomark _)) (pss_one (ps_expr (pe_bm PySem.F.plainAttrs_list PySem.F.slot_list_append PySem.F.type_list_append mt_append (pv 6) (pa_cons (pe_tup (pa_cons (pv 10) (pa_cons (pe_lst (pa_cons (pv 8) pa_nil)) pa_nil))) pa_nil)))) pss_nil)))
      (pss_one (ps_set (i := 7) sc_side_portals.nd rfl (.inl rfl) (pv 10)))))))
      (pss_one (ps_ret (pe_lc (own := [("other", 9), ("run", 11)]) rfl sc_side_portals.nd (pi_list (pv 6)) (blkOk_by (own := [("other", 9), ("run", 11)]) (N := N_side_portals) (sc := defScope (topS 17)) (by decide +kernel)) (fun _ _ _ _ _ => (g_tup K 2 rfl (pgs_cons (pg_name (i := 9) sc_side_portals.nd rfl (.inl rfl) (.inr rfl)) (pgs_cons (pg_name (i := 11) sc_side_portals.nd rfl (.inl rfl) (.inr rfl)) pgs_nil)) rfl rfl rfl)) (fun _ _ _ _ _ => pts_nil) (fun _ _ _ _ _ => (pe_callC (cal_portal_of (K := K) T) (hr.mono (by decide)) (by rfl) (pa_cons (pv 0) (pa_cons (pv 5) (pa_cons (pv 4) (pa_cons (pv 9) (pa_cons (pv 11) pa_nil))))))))))))), ?_⟩
    change (_ : TS) _ [some _, some _, some _, some _, some _, some _, none, none, none, none, none, none] H
    wtm_at "go"
    rename_i R hR
    refine do_border (hp.tt (Tk.new hR)) fun b ys H1 nb s1 hb ly ey => ?_
    have s01 : Same H H1 := (same_new hR).trans s1
    have hR1 := s1 _ _ upd_same
    have nbR : b ≠ R := (ne_of_none upd_same nb).symm
    refine ⟨b, rfl, ⟨_, SqL.of hb⟩, ?_⟩
    refine for_list (xs := ys) (fun n σ H' => (∃ bv y8 y9 y10, σ = [some (.ref s), some (.ref d), some (.ref o), some plv, some (.int at_), some (.int side), some (.ref R), some bv, y8, y9, y10, none] ∧ IntN bv ∧ Bt R H1 H' ∧ ∃ rs : List V, H' R = some (.lst rs) ∧ rs.length ≤ n ∧ (∀ v ∈ rs, RunAt P n H1 H' v) ∧ (bv ≠ .non → 1 ≤ rs.length)))
      ⟨_, _, _, _, rfl, .inl rfl, Bt.refl, [], hR1, Nat.le_refl _, fun v h => absurd h (by simp), fun h => absurd rfl h⟩ (fun n σ H' _ h' => SqL.of (by obtain ⟨_, _, _, _, _, _, b2, _⟩ := h'; exact b2 _ _ nbR hb)) (fun n x σ H2 hx h2 => ?_) (fun σ H2 h2 => ?_)
    · obtain ⟨bv, y8, y9, y10, rfl, hbv, b2, rs, hR2, lr, rr, ne⟩ := h2
      have hn : n < 24 := by have := (List.getElem?_eq_some_iff.mp hx).1; omega
      have bH : ∀ b o, H b = some o → H2 b = some o := fun b o h => b2 _ _ (ne_of_none h hR) (s01 _ _ h)
      have sH : Same H H2 := bH
      have tk2 : Tk H1 H2 := fun a xs q => b2 _ _ (ne_of q hR1 (by intro z; cases z)) q
      have px := (ey x (List.mem_of_getElem? hx)).tt tk2
      obtain ⟨q, i, k, L, rfl, hq, pq⟩ := id px
      wtm_at "go"
      refine do_partner (hse.same sH) (sH _ _ hd) (fk.lk (Lk.of sH)) hq fun v H3 s3 hv => ?_
      wtm_at "go"
      refine i_cut (fun σ' H' => ∃ mv, σ' = [some (.ref s), some (.ref d), some (.ref o), some plv, some (.int at_), some (.int side), some (.ref R), some bv, some (.ref q), some v, some mv, none] ∧ IntN mv ∧ Same H3 H') ?_ ?_
      · rcases hv with rfl | ⟨q', L', rfl, hq', nn, hnn⟩
        · wtm_at "go"
          exact ⟨_, rfl, .inl rfl, Same.refl _⟩
        · wtm_at "go"
          refine i_getT (k := k3 _ _ _) (s3 _ _ (sH _ _ ho)) hq' hnn ?_
          wtm_at "go"
          exact ⟨_, rfl, .inr ⟨_, rfl⟩, Same.refl _⟩
      · rintro σ' H4 ⟨mv, rfl, hmv, s4⟩
        have s24 := s3.trans s4
        have hR4 := s24 _ _ hR2
        have b4 : Bt R H1 H4 := b2.trans (Bt.of s24)
        have rr4 : ∀ v ∈ rs, RunAt P n H1 H4 v := fun v hv => (rr v hv).bt (Nat.le_refl _) (Bt.of s24) hR2 ⟨_, hR1⟩
        have px4 := px.tt (Tk.of s24)
        refine i_cut (fun σ' H' => σ' = [some (.ref s), some (.ref d), some (.ref o), some plv, some (.int at_), some (.int side), some (.ref R), some bv, some (.ref q), some v, some mv, none] ∧ Bt R H1 H' ∧ ∃ rs : List V, H' R = some (.lst rs) ∧ rs.length ≤ n + 1 ∧ (∀ v ∈ rs, RunAt P (n + 1) H1 H' v) ∧ (mv ≠ .non → 1 ≤ rs.length)) ?_ ?_
        · have new : ∀ nn : Int, mv = .int nn → ∀ p1 p2, H4 p1 = none → (upd H4 p1 (.lst [.ref q])) p2 = none →
              Bt R H1 (upd (upd (upd H4 p1 (.lst [.ref q])) p2 (.tup [.int nn, .ref p1])) R (.lst (rs ++ [.ref p2]))) ∧ ∃ rs' : List V, (upd (upd (upd H4 p1 (.lst [.ref q])) p2 (.tup [.int nn, .ref p1])) R (.lst (rs ++ [.ref p2]))) R = some (.lst rs') ∧ rs'.length ≤ n + 1 ∧
                (∀ v ∈ rs', RunAt P (n + 1) H1 (upd (upd (upd H4 p1 (.lst [.ref q])) p2 (.tup [.int nn, .ref p1])) R (.lst (rs ++ [.ref p2]))) v) ∧ (mv ≠ .non → 1 ≤ rs'.length) := by
            intro nn _ p1 p2 hp1 hp2
            have s5 : Same H4 (upd (upd H4 p1 (.lst [.ref q])) p2 (.tup [.int nn, .ref p1])) := (same_new hp1).trans (same_new hp2)
            have hR6 := s5 _ _ hR4
            have hp6 : (upd (upd H4 p1 (.lst [.ref q])) p2 (.tup [.int nn, .ref p1])) p1 = some (.lst [.ref q]) := upd_new hp2 upd_same
            have ht6 : (upd (upd H4 p1 (.lst [.ref q])) p2 (.tup [.int nn, .ref p1])) p2 = some (.tup [.int nn, .ref p1]) := upd_same
            have px6 := px4.tt (Tk.of s5)
            have np1 : H1 p1 = none := by
              cases z : H1 p1 with
              | none => rfl
              | some u =>
                by_cases e : p1 = R
                · rw [e, hR4] at hp1; cases hp1
                · rw [b4 _ _ e z] at hp1; cases hp1
            generalize upd (upd H4 p1 (.lst [.ref q])) p2 (.tup [.int nn, .ref p1]) = H6 at s5 hR6 hp6 ht6 px6
            refine ⟨(b4.trans (Bt.of s5)).trans Bt.upd, _, upd_same, by simp; omega, fun v hv => ?_, fun _ => by simp⟩
            rcases List.mem_append.mp hv with hv | hv
            · exact (rr4 v hv).bt (by omega) ((Bt.of s5).trans Bt.upd) hR4 ⟨_, hR1⟩
            · rw [List.mem_singleton.mp hv]
              refine ⟨p2, p1, nn, [.ref q], rfl, upd_tup hR6 ht6, ?_, by simp, by simp, fun y hy => ?_, np1⟩
              · rw [upd_ne (fun z => by rw [z, hR1] at np1; cases np1)]; exact hp6
              · rw [List.mem_singleton.mp hy]; exact px6.tt (Tk.lst hR6)
          have lrs : rs.length ≤ 1000 := by omega
          rcases hmv with rfl | ⟨nn, rfl⟩
          · wtm_at "go"
            exact ⟨rfl, b4, rs, hR4, by omega, fun v hv => (rr4 v hv).bt (by omega) Bt.refl hR4 ⟨_, hR1⟩, fun h => absurd rfl h⟩
          · rcases hbv with rfl | ⟨mm, rfl⟩
            · wtm_at "go"
              refine ⟨rfl, ?_⟩
              rw [show decide (V.int nn = V.non) = false by simp]
              wtm_at "go"
              rename_i p1 hp1 p2 hp2
              exact ⟨rfl, new nn rfl p1 p2 hp1 hp2⟩
            · obtain ⟨rs0, v9, rfl⟩ := snoc_of' (ne (by intro z; cases z))
              have r9 := rr4 v9 (by simp)
              obtain ⟨t9, l9, n9, ps9, rfl, ht9, hl9, h19, hn9, hp9, h09⟩ := id r9
              have lps : ps9.length ≤ 1000 := by omega
              wtm_at "go"
              · refine i_lastL hR4 ?_
                wtm_at "go"
                have nl9 : l9 ≠ R := fun z => by rw [z, hR1] at h09; cases h09
                refine ⟨rfl, fun bb oo n1 hb' => ?_, _, by rw [upd_ne nl9.symm]; exact hR4, by omega, fun v hv => (rr4 v hv).add hl9 hn9 hp9 px4, fun _ => by simp⟩
                rw [upd_ne (ne_of_none hb' h09)]
                exact b4 _ _ n1 hb'
              · rename_i p1 hp1 p2 hp2
                exact ⟨rfl, new nn rfl p1 p2 hp1 hp2⟩
        · rintro σ' H5 ⟨rfl, b5, rs5, hR5, lr5, rr5, ne5⟩
          wtm_at "go"
          exact ⟨_, _, _, _, rfl, hmv, b5, rs5, hR5, lr5, rr5, ne5⟩
    · obtain ⟨bv, y8, y9, y10, rfl, hbv, b2, rs, hR2, lr, rr, ne⟩ := h2
      have sH : Same H H2 := fun b o h => b2 _ _ (ne_of_none h hR) (s01 _ _ h)
      wtm_at "go"
      intro D hD
      refine lc_mapL hR2 hD (szt (by omega)) (fun _ _ _ => True) (fun _ _ _ _ _ _ => trivial) (fun j x H4 C G hj s4 acc kC => ?_) (fun zs H4 s4 hz hzl _ => ?_)
      · obtain ⟨t9, l9, n9, ps9, rfl, ht9, hl9, h19, hn9, hp9, h09⟩ := rr x (List.mem_of_getElem? hj)
        have ht4 := s4 _ _ ht9
        change gTup _ _ _ _ [some _, some _, some _, some _, some _, some _, some _, _, _, none, _, none] _ _
        wtm_at "go"
        refine do_portal_of ((hse.same sH).same s4) (s4 _ _ hl9) h19 (fun y hy => (hp9 y hy).tt (Tk.of s4)) gd fun v H5 s5 => ?_
        exact kC _ _ s5 trivial
      · exact kk _ _ _ (none_of sH hD) (sH.trans s4) hz (by omega)
theorem do_side_portals {K : PySem.W.Frag} {H : Hp} {Q : VK} {s d o : Addr} {plv : V} {M : FpM.Me} {tl side at_ : Int} {P : Int → Int → Int → Prop} {B : Nat} {okvs kvs : List (List L2.Key × V)} (hse : SeAt K H s M tl) (ho : H o = some (.dT okvs)) (hd : H d = some (.dT kvs)) (fk : FlK (InOw okvs) B H kvs) (hp : PtAt P H plv) (gd : Gd P)
    (kk : ∀ (r : Addr) (zs : List V) H', H r = none → Same H H' → H' r = some (.lst zs) → zs.length ≤ 24 → Q (.ref r) H') : sp_side_portals K [.ref s, .ref d, .ref o, plv, .int at_, .int side] H Q E0 := ⟨s, d, o, plv, M, tl, side, at_, P, B, okvs, kvs, rfl, hse, ho, hd, fk, hp, gd, kk⟩
end
section
local macro_rules | `(tactic| wtm_at "go1") => `(tactic| first
  | with_reducible refine i_callM ?_
  | ((with_reducible show rAppend (V.ref _) _ _ _); refine i_append (by wtm_at "hp") (szb (by omega)) ?_)
  | ((with_reducible show ∃ _, ∃ _, ∃ _, V.ref _ = _ ∧ _ ∧ _ ∧ _); refine i_self (by wtm_at "hp") (by rfl) ?_))
def sp_joined_portals (K : PySem.W.Frag) : Sp := fun vs H Q _ => ∃ (s l : Addr) (M : FpM.Me) (tl : Int) (fs : List V) (P : Int → Int → Int → Prop), vs = [.ref s, .ref l] ∧ SeAt K H s M tl ∧ H l = some (.lst fs) ∧ fs.length ≤ 115200 ∧ (∀ y ∈ fs, PtAt P H y) ∧ Gd P ∧ ∀ v H', Same H H' → Q v H'
abbrev s_joined_portals : Stmt := topS 18
abbrev N_joined_portals : List Str := ["settings", "plates", "owner", "floors", "found", "at", "side"]
theorem sc_joined_portals : FnScope N_joined_portals ["settings", "plates"] (defScope s_joined_portals) := ⟨rfl, rfl, rfl, by decide +kernel, rfl, by decide +kernel, by decide +kernel⟩
theorem bd_joined_portals : BindsOf ["settings", "plates"] "joined_portals" "joined_portals" s_joined_portals := fun _ _ _ _ _ _ us hl => match us, hl with | [_, _], _ => rfl
theorem cal_joined_portals {P : Program} {w : World} {K : PySem.W.Frag} {mg : Str → Option Value} {base : Heap} (T : Tx K mg) : Cal P w K mg base "joined_portals" 4 ["settings", "plates"] (sp_joined_portals K) := by
  refine T.joined_portals.cal sc_joined_portals bd_joined_portals (fun vs H Q E h => ?_) (fun f cdv A outer s H vs Q E hr h => ?_)
  · obtain ⟨s, l, M, tl, fs, P, rfl, hse, hl, lf, pt, gd, kk⟩ := h; rfl
  · have hu := hu_of hr
    obtain ⟨s, l, M, tl, fs, P, rfl, hse, hl, lf, pt, gd, kk⟩ := h
    refine ⟨_, (pss_cons (ps_set (i := 2) sc_joined_portals.nd rfl (.inl rfl) (pe_callC (cal_owners (K := K) T) (hr.mono (by decide)) (by rfl) (pa_cons (pv 1) pa_nil)))
      (pss_cons (ps_set (i := 3) sc_joined_portals.nd rfl (.inl rfl) (pe_callC (cal_gathered (K := K) T) (hr.mono (by decide)) (by rfl) (pa_cons (pv 2) pa_nil)))
      (pss_cons (ps_set (i := 4) sc_joined_portals.nd rfl (.inl rfl) (pe_lst pa_nil))
      (pss_cons (ps_for PassesOwn.never rfl (pi_range1 (by rfl) T.range (pa_cons (pe_callB (c_len K) (by rfl) T.len PySem.boot_len (pa_cons (pv 1) pa_nil)) pa_nil)) (pg_name (i := 5) sc_joined_portals.nd rfl (.inl rfl)) (pss_one (ps_for PassesOwn.never rfl (pi_tup (pe_tup (pa_cons pe_int (pa_cons pe_int pa_nil)))) (pg_name (i := 6) sc_joined_portals.nd rfl (.inl rfl)) (pss_one (ps_expr (pe_bm PySem.F.plainAttrs_list PySem.F.slot_list_extend PySem.F.type_list_extend mt_extend (pv 4) (pa_cons (pe_callC (cal_side_portals (K := K) T) (hr.mono (by decide)) (by rfl) (pa_cons (pv 0) (pa_cons (pv 3) (pa_cons (pv 2) (pa_cons (pe_ix (x_list K) (pv 1) (pv 5) (fun _ _ => rfl)) (pa_cons (pv 5) (pa_cons (pv 6) pa_nil))))))) pa_nil)))))))
      (pss_one (ps_ret (pv 4))))))), ?_⟩
    change (_ : TS) _ [some _, some _, none, none, none, none, none] H
    wtm_at "go"
    refine do_owners hl lf pt fun o okvs H1 no s1 ho ow lo => ?_
    wtm_at "go"
    refine do_gathered ho ow lo fun g kvs H2 s2 hg fk => ?_
    wtm_at "go"
    rename_i F hF
    have s02 := s1.trans s2
    have hl2 := upd_new (q := .lst []) hF (s02 _ _ hl)
    refine i_lenL (by wtm_at "hp") ?_
    wtm_at "go"
    rw [show ((fs.length : Nat) : Int).toNat = fs.length by simp]
    refine for_range (fun n σ H' => (∃ y5 y6, σ = [some (.ref s), some (.ref l), some (.ref o), some (.ref g), some (.ref F), y5, y6]) ∧ Same H2 H' ∧ ∃ zs : List V, H' F = some (.lst zs) ∧ zs.length ≤ n * 48)
      ⟨⟨_, _, rfl⟩, same_new hF, [], upd_same, Nat.zero_le _⟩ (fun n σ H3 hn h3 => ?_) (fun σ H3 h3 => ?_)
    · obtain ⟨⟨y5, y6, rfl⟩, s3, zs, hF3, lz⟩ := h3
      wtm_at "go"
      rename_i T2 hT2
      refine for_tup (xs := [.int 0, .int 1]) (fun j σ H' => (∃ y6, σ = [some (.ref s), some (.ref l), some (.ref o), some (.ref g), some (.ref F), some (.int (0 + (n : Int))), y6]) ∧ Same H2 H' ∧ H' T2 = some (.tup [.int 0, .int 1]) ∧ ∃ zs : List V, H' F = some (.lst zs) ∧ zs.length ≤ n * 48 + j * 24)
        ⟨⟨_, rfl⟩, s3.trans (same_new hT2), upd_same, zs, upd_new hT2 hF3, by omega⟩ (fun j σ H' _ h' => SqT.of h'.2.2.1) (fun j x σ H4 hx h4 => ?_) (fun σ H4 h4 => ?_)
      · obtain ⟨⟨y6, rfl⟩, s4, hT4, zs, hF4, lz4⟩ := h4
        obtain ⟨side, rfl⟩ : ∃ m : Int, x = .int m := by
          match j, hx with
          | 0, hx => exact ⟨0, by simpa using hx.symm⟩
          | 1, hx => exact ⟨1, by simpa using hx.symm⟩
          | j + 2, hx => simp at hx
        have hj : j < 2 := by have := (List.getElem?_eq_some_iff.mp hx).1; simpa using this
        have s04 := s02.trans s4
        have hl4 := s04 _ _ hl
        have hx4 := at_nat (i := n) (List.getElem?_eq_getElem hn)
        wtm_at "go"
        refine do_side_portals (hse.same s04) (s4 _ _ (s2 _ _ ho)) (s4 _ _ hg) (fk.lk (Lk.of s4)) ((pt _ (List.getElem_mem hn)).tt (Tk.of s04)) gd fun r ps H5 nr s5 hr lp => ?_
        have hF5 := s5 _ _ hF4
        wtm_at "go"
        refine i_extend hF5 hr (Nat.le_of_lt (szb (by omega))) ?_
        exact ⟨⟨_, rfl⟩, same_mut hF (s4.trans s5), upd_tup hF5 (s5 _ _ hT4), _, upd_same, by simp; omega⟩
      · obtain ⟨⟨y6, rfl⟩, s4, hT4, zs, hF4, lz4⟩ := h4
        have lz4 : zs.length ≤ n * 48 + 2 * 24 := lz4
        exact ⟨⟨_, _, rfl⟩, s4, zs, hF4, by omega⟩
    · obtain ⟨⟨y5, y6, rfl⟩, s3, zs, hF3, lz⟩ := h3
      wtm_at "go"
      exact kk _ _ (s02.trans s3)
theorem do_joined_portals {K : PySem.W.Frag} {H : Hp} {Q : VK} {s l : Addr} {M : FpM.Me} {tl : Int} {fs : List V} {P : Int → Int → Int → Prop} (hse : SeAt K H s M tl) (hl : H l = some (.lst fs)) (lf : fs.length ≤ 115200) (pt : ∀ y ∈ fs, PtAt P H y) (gd : Gd P) (kk : ∀ v H', Same H H' → Q v H') : sp_joined_portals K [.ref s, .ref l] H Q E0 := ⟨s, l, M, tl, fs, P, rfl, hse, hl, lf, pt, gd, kk⟩
def sp_mesh (K : PySem.W.Frag) : Sp := fun vs H Q _ => ∃ (s d : Addr) (M : FpM.Me) (tl : Int) (C : Int → Int → List FpM.Sol), vs = [.ref s, .ref d] ∧ SeAt K H s M tl ∧ CdAt M C H d ∧
  ∀ (r l : Addr) (x : V) (fs : List V) H', Same H H' → H' r = some (.tup [.ref l, x]) → H' l = some (.lst fs) → (∀ y ∈ fs, PtAt (FpM.FloorOk M C) H' y) → Q (.ref r) H'
abbrev s_mesh : Stmt := topS 19
abbrev N_mesh : List Str := ["settings", "columns", "plates", "a", "b"]
theorem sc_mesh : FnScope N_mesh ["settings", "columns"] (defScope s_mesh) := ⟨rfl, rfl, rfl, by decide +kernel, rfl, by decide +kernel, by decide +kernel⟩
theorem bd_mesh : BindsOf ["settings", "columns"] "mesh" "mesh" s_mesh := fun _ _ _ _ _ _ us hl => match us, hl with | [_, _], _ => rfl
theorem cal_mesh {P : Program} {w : World} {K : PySem.W.Frag} {mg : Str → Option Value} {base : Heap} (T : Tx K mg) : Cal P w K mg base "mesh" 6 ["settings", "columns"] (sp_mesh K) := by
  refine T.mesh.cal sc_mesh bd_mesh (fun vs H Q E h => ?_) (fun f cdv A outer s H vs Q E hr h => ?_)
  · obtain ⟨s, d, M, tl, C, rfl, hse, hcd, kk⟩ := h; rfl
  · have hu := hu_of hr
    obtain ⟨s, d, M, tl, C, rfl, hse, hcd, kk⟩ := h
    refine ⟨_, (pss_cons (ps_set (i := 2) sc_mesh.nd rfl (.inl rfl) (pe_lst pa_nil))
      (pss_cons (ps_for PassesOwn.never rfl (pi_list (pe_methC0 (cal_m_tiles (K := K) T) T.cls (hr.mono (by decide)) (pv 0))) (pg_tup rfl (pgs_cons (pg_name (i := 3) sc_mesh.nd rfl (.inl rfl)) (pgs_cons (pg_name (i := 4) sc_mesh.nd rfl (.inl rfl)) pgs_nil))) (pss_one (ps_expr (pe_bm PySem.F.plainAttrs_list PySem.F.slot_list_extend PySem.F.type_list_extend mt_extend (pv 2) (pa_cons (pe_callC (cal_tile_plates (K := K) T) (hr.mono (by decide)) (by rfl) (pa_cons (pv 0) (pa_cons (pv 1) (pa_cons (pv 3) (pa_cons (pv 4) pa_nil))))) pa_nil)))))
      (pss_one (ps_ret (pe_tup (pa_cons (pv 2) (pa_cons (pe_callC (cal_joined_portals (K := K) T) (hr.mono (by decide)) (by rfl) (pa_cons (pv 0) (pa_cons (pv 2) pa_nil))) pa_nil))))))), ?_⟩
    change (_ : TS) _ [some _, some _, none, none, none] H
    have ⟨⟨dx, h1, h2, sl, e1, e2⟩, mo⟩ := hse
    wtm_at "go"
    rename_i F hF
    refine do_tiles (hse.same (same_new hF)) fun c ys ps H1 s1 hc a1 l1 t1 => ?_
    have s01 := (same_new (q := .lst []) hF).trans s1
    have hF1 := s1 _ _ upd_same
    refine ⟨c, rfl, ⟨_, SqL.of hc⟩, ?_⟩
    refine for_list (xs := ys) (fun n σ H' => (∃ y3 y4, σ = [some (.ref s), some (.ref d), some (.ref F), y3, y4]) ∧ Bt F H1 H' ∧ ∃ fs : List V, H' F = some (.lst fs) ∧ fs.length ≤ n * 4800 ∧ ∀ y ∈ fs, PtAt (FpM.FloorOk M C) H' y)
      ⟨⟨_, _, rfl⟩, Bt.refl, [], hF1, Nat.zero_le _, fun y h => absurd h (by simp)⟩ (fun n σ H' hn h' => ?_) (fun n x σ H2 hx h2 => ?_) (fun σ H2 h2 => ?_)
    · obtain ⟨_, b2, fs, hF2, lf, _⟩ := h'
      by_cases z : c = F
      · subst z
        rw [hF1] at hc
        cases hc
        have e : fs = [] := List.eq_nil_of_length_eq_zero (by simp at hn; subst hn; omega)
        subst e
        exact SqL.of hF2
      · exact SqL.of (b2 _ _ z hc)
    · obtain ⟨⟨y3, y4, rfl⟩, b2, fs, hF2, lf, pt⟩ := h2
      obtain ⟨p, hp, q, rfl, hq⟩ := a1.get hx
      have hn : n < 24 := by have := (List.getElem?_eq_some_iff.mp hp).1; omega
      have hq2 := b2 _ _ (ne_of hq hF1 (by intro z; cases z)) hq
      have hr := t1 p (List.mem_of_getElem? hp)
      have s02 : Same H H2 := fun b o h => b2 _ _ (ne_of_none h hF) (s01 _ _ h)
      wtm_at "go"
      refine do_tile_plates (hse.same s02) (hcd.same s02) hr fun r gs H3 s3 hr3 lg pg => ?_
      have hF3 := s3 _ _ hF2
      wtm_at "go"
      refine i_extend hF3 hr3 (Nat.le_of_lt (szb (by omega))) ?_
      refine ⟨⟨_, _, rfl⟩, (b2.trans (Bt.of s3)).trans Bt.upd, _, upd_same, by simp; omega, fun y hy => ?_⟩
      rcases List.mem_append.mp hy with hy | hy
      · exact ((pt y hy).tt (Tk.of s3)).tt (Tk.lst hF3)
      · exact (pg y hy).tt (Tk.lst hF3)
    · obtain ⟨⟨y3, y4, rfl⟩, b2, fs, hF2, lf, pt⟩ := h2
      have s02 : Same H H2 := fun b o h => b2 _ _ (ne_of_none h hF) (s01 _ _ h)
      have := a1.length
      wtm_at "go"
      refine do_joined_portals (hse.same s02) hF2 (by omega) pt (gd_floor mo) fun v H3 s3 => ?_
      wtm_at "go"
      rename_i t ht
      exact kk t F v fs _ ((s02.trans s3).trans (same_new ht)) upd_same (upd_new ht (s3 _ _ hF2)) fun y hy => ((pt y hy).tt (Tk.of s3)).tt (Tk.new ht)
theorem do_mesh {K : PySem.W.Frag} {H : Hp} {Q : VK} {s d : Addr} {M : FpM.Me} {tl : Int} {C : Int → Int → List FpM.Sol} (hse : SeAt K H s M tl) (hcd : CdAt M C H d)
    (kk : ∀ (r l : Addr) (x : V) (fs : List V) H', Same H H' → H' r = some (.tup [.ref l, x]) → H' l = some (.lst fs) → (∀ y ∈ fs, PtAt (FpM.FloorOk M C) H' y) → Q (.ref r) H') : sp_mesh K [.ref s, .ref d] H Q E0 := ⟨s, d, M, tl, C, rfl, hse, hcd, kk⟩
end
section
/-! ### chains of three, the settings made -/
def tChain3 (r r' r'' : R2) (ta tb tc td : TE) : TE := fun σ H Q => ta σ H fun x H1 => tb σ H1 fun y H2 => r x y H2 fun z H3 => ∃ k, z = V.bl k ∧ (if k = true then tc σ H3 fun w' H4 => r' y w' H4 fun z' H5 => ∃ k', z' = V.bl k' ∧ (if k' = true then td σ H5 fun u' H6 => r'' w' u' H6 Q else Q (.bl false) H5) else Q (.bl false) H3)
section
variable {X : Cx}
theorem pe_chain3 {a b c d : Expr} {pos : Pos} {ta tb tc td : TE} {op op' op'' : CmpOp} {r r' r'' : R2} (ho : OpR X (compareOp op) r) (ho' : OpR X (compareOp op') r') (ho'' : OpR X (compareOp op'') r'') (ha : PE X a ta) (hb : PE X b tb) (hc : PE X c tc) (hd : PE X d td)
    (hm : lastMarks [op, op', op''] [b, c, d] = false := by with_unfolding_all rfl) : PE X (.Compare a [op, op', op''] [b, c, d] pos) (tChain3 r r' r'' ta tb tc td) := by
  refine ⟨fun pins s σ H Q I h => ?_⟩
  refine Compare_chain (thn (ha.run pins s σ H _ I h) fun v s1 ⟨x, H1, I1, r1, q1⟩ => chain_link (thn (hb.run pins s1 σ H1 _ I1 q1) fun u s2 ⟨y, H2, I2, r2, q2⟩ =>
    thn (ho pins s2 σ H2 x y v u _ I2 r1 r2 q2) fun d s3 ⟨z, H3, I3, r3, k, e, q3⟩ => ?_)) hm
  subst e
  cases r3
  refine wpAny_truthy_bool ?_
  cases k with
  | false => exact ite_ff ⟨.bl false, H3, I3, rfl, q3⟩
  | true =>
    refine ite_tt (chain_link (thn (hc.run pins s3 σ H3 _ I3 q3) fun w' s4 ⟨z', H4, I4, r4, q4⟩ => thn (ho' pins s4 σ H4 y z' u w' _ I4 r2 r4 q4) fun d' s5 ⟨z2, H5, I5, r5, k', e', q5⟩ => ?_))
    subst e'
    cases r5
    refine wpAny_truthy_bool ?_
    cases k' with
    | false => exact ite_ff ⟨.bl false, H5, I5, rfl, q5⟩
    | true => exact ite_tt (chain_last (thn (hd.run pins s5 σ H5 _ I5 q5) fun w2 s6 ⟨z3, H6, I6, r6, q6⟩ => ho'' pins s6 σ H6 z' z3 w' w2 Q I6 r4 r6 q6))
end
theorem pe_globI {X : Cx} {x : Str} {i : Int} {pos : Pos} (hg : Gl X x) (hm : ∃ t, X.mg x = some (.int i t)) (hd : (x == ("__debug__" : Str)) = false := by decide) : PE X (.Name x pos) (tC (.int i)) := by
  obtain ⟨t, e⟩ := hm
  exact pe_glob hg e ⟨_, rfl⟩ hd
theorem i_chain3 {r r' r'' : R2} {ta tb tc td : TE} {σ : L2.St} {H : Hp} {Q : VK} (h : ta σ H fun x H1 => tb σ H1 fun y H2 => r x y H2 fun z H3 => ∃ k, z = V.bl k ∧ (if k = true then tc σ H3 fun w' H4 => r' y w' H4 fun z' H5 => ∃ k', z' = V.bl k' ∧ (if k' = true then td σ H5 fun u' H6 => r'' w' u' H6 Q else Q (.bl false) H5) else Q (.bl false) H3)) :
    tChain3 r r' r'' ta tb tc td σ H Q := h
theorem i_sfld {K : PySem.W.Frag} {ta tv : TE} {f : Str} {D : Ends} {σ : L2.St} {H : Hp} (h : tv σ H fun y H1 => ta σ H1 fun x H2 => ∃ a C dx fs, x = .ref a ∧ H2 a = some (.ins C dx fs) ∧ Cls K C ∧ NoAttr K C f ∧ fs.length < 1000 ∧ D.nx σ (upd H2 a (.ins C dx (putF f y fs)))) : sFld K ta tv f D σ H := h
theorem i_put {K : PySem.W.Frag} {f : Str} {H : Hp} {y : V} {a dx : Addr} {fs : List (Str × V)} {R : Hp → Prop} (s : H a = some (.ins (CS K) dx fs)) (c : Cls K (CS K)) (n : NoAttr K (CS K) f) (hl : fs.length < 1000) (h : R (upd H a (.ins (CS K) dx (putF f y fs)))) :
    ∃ a' C dx fs, V.ref a = .ref a' ∧ H a' = some (.ins C dx fs) ∧ Cls K C ∧ NoAttr K C f ∧ fs.length < 1000 ∧ R (upd H a' (.ins C dx (putF f y fs))) := ⟨a, _, dx, fs, rfl, s, c, n, hl, h⟩
end
section
local macro_rules | `(tactic| wtm_at "go1") => `(tactic| first
  | with_reducible refine i_chain3 ?_)
def sp_require (_ : PySem.W.Frag) : Sp := fun vs H Q _ => ∃ x : V, vs = [.bl true, x] ∧ ∀ H', Same H H' → Q .non H'
abbrev s_require : Stmt := topS 26
abbrev N_require : List Str := ["holds", "name"]
theorem sc_require : FnScope N_require ["holds", "name"] (defScope s_require) := ⟨rfl, rfl, rfl, by decide +kernel, rfl, by decide +kernel, by decide +kernel⟩
theorem bd_require : BindsOf ["holds", "name"] "require" "require" s_require := fun _ _ _ _ _ _ us hl => match us, hl with | [_, _], _ => rfl
theorem cal_require {P : Program} {w : World} {K : PySem.W.Frag} {mg : Str → Option Value} {base : Heap} (T : Tx K mg) : Cal P w K mg base "require" 1 ["holds", "name"] (sp_require K) := by
  refine T.require.cal sc_require bd_require (fun vs H Q E h => ?_) (fun f cdv A outer s H vs Q E hr h => ?_)
  · obtain ⟨x, rfl, k⟩ := h; rfl
  · have hu := hu_of hr
    obtain ⟨x, rfl, k⟩ := h
    refine ⟨_, (pss_one (ps_if (pt_not (pt_val (pv 0))) (pss_one ps_never) pss_nil)), ?_⟩
    change (_ : TS) _ [some _, some _] H
    wtm_at "go"
    exact k _ (Same.refl _)
theorem do_require {K : PySem.W.Frag} {H : Hp} {Q : VK} {x : V} {b : Bool} (hb : b = true) (k : ∀ H', Same H H' → Q .non H') : sp_require K [.bl b, x] H Q E0 := ⟨x, by rw [hb], k⟩
/-- what the settings are given -/
structure Giv (c r ce le w h st sn sd sl tl : Int) : Prop where
  g_c : 1 ≤ c ∧ c ≤ 6
  g_r : 1 ≤ r ∧ r ≤ 4
  g_ce : 3 ≤ ce ∧ ce ≤ 10
  g_le : 1 ≤ le ∧ le ≤ 5
  g_w : 0 ≤ w ∧ w ≤ 2 * ce
  g_h : 1 ≤ h ∧ h ≤ 10 * le
  g_st : 0 ≤ st ∧ 2 * (st / le) < FpM.ceilM h le
  g_sn : 0 ≤ sn ∧ sn ≤ sd ∧ sd ≤ 1000 ∧ 0 < sd
  g_sl : 0 ≤ sl ∧ sl ≤ 3
  g_tl : 2 ≤ tl ∧ tl ≤ 5
def meOf (c r ce le w h st sn sd sl : Int) : FpM.Me := ⟨c, r, ce, le, w, FpM.ceilM h le, st / le, FpM.ceilM w ce, sl, sn, sd⟩
theorem Giv.ok {c r ce le w h st sn sd sl tl : Int} (g : Giv c r ce le w h st sn sd sl tl) : MeOk (meOf c r ce le w h st sn sd sl) tl := by
  have g1 := g.g_c; have g2 := g.g_r; have g3 := g.g_ce; have g4 := g.g_le; have g5 := g.g_w; have g6 := g.g_h; have g7 := g.g_st; have g8 := g.g_sn; have g9 := g.g_sl; have g10 := g.g_tl
  have c1 := (FpM.ceil_le (n := h) (u := le) (by omega)).1
  have t10 : FpM.ceilM h le ≤ 10 := FpM.ceil_le_of (by omega) g6.2
  have t1 : 1 ≤ FpM.ceilM h le := by
    refine Int.not_lt.mp fun z => ?_
    have : FpM.ceilM h le * le ≤ 0 := Int.mul_nonpos_of_nonpos_of_nonneg (by omega) (by omega)
    omega
  have s0 : 0 ≤ st / le := Int.ediv_nonneg g7.1 (by omega)
  have w0 := ceil_small (n := w) (u := ce) (B := 20) (by omega) (by omega) (by omega)
  have w4 : FpM.ceilM w ce ≤ 4 := FpM.ceil_le_of (by omega) (by omega)
  have w1 := (FpM.ceil_le (n := w) (u := ce) (by omega)).1
  exact ⟨g1, g2, g3, g4, ⟨g5.1, show w ≤ 20 by omega⟩, ⟨t1, t10⟩, ⟨s0, show st / le ≤ 10 by omega⟩, ⟨w0.1, w4⟩, g9, ⟨g8.1, show sn ≤ 1000 by omega, show 0 ≤ sd by omega, g8.2.2.1⟩, g10, w1⟩
abbrev PsI : List Str := ["self", "columns", "rows", "cell", "level", "width", "height", "step", "slope", "slack", "tile"]
def sp_Settings_init (K : PySem.W.Frag) : Sp := fun vs H Q _ => ∃ (a dx so : Addr) (c r ce le w h st sn sd sl tl : Int), vs = [.ref a, .int c, .int r, .int ce, .int le, .int w, .int h, .int st, .ref so, .int sl, .int tl] ∧ H a = some (.ins (CS K) dx []) ∧ T2 H so sn sd ∧ Giv c r ce le w h st sn sd sl tl ∧
  ∀ H', Bt a H H' → H' a = some (.ins (CS K) dx (sf (meOf c r ce le w h st sn sd sl) h st tl so)) → Q .non H'
theorem i_putB {K : PySem.W.Frag} {f : Str} {H : Hp} {y : V} {a dx : Addr} {fs : List (Str × V)} {R : Hp → Prop} (s : H a = some (.ins (CS K) dx fs)) (c : Cls K (CS K)) (n : NoAttr K (CS K) f) (hl : fs.length < 1000) (h : ∀ H', Bt a H H' → H' a = some (.ins (CS K) dx (putF f y fs)) → R H') :
    ∃ a' C dx fs, V.ref a = .ref a' ∧ H a' = some (.ins C dx fs) ∧ Cls K C ∧ NoAttr K C f ∧ fs.length < 1000 ∧ R (upd H a' (.ins C dx (putF f y fs))) := i_put s c n hl (h _ Bt.upd upd_same)
theorem i_fldG {K : PySem.W.Frag} {f : Str} {H : Hp} {Q : VK} {a dx : Addr} {fs : List (Str × V)} {v : V} (s : H a = some (.ins (CS K) dx fs)) (c : Cls K (CS K)) (n : NoAttr K (CS K) f) (hl : fs.lookup f = some v) (q : Q v H) : fldR K f (.ref a) H Q := ⟨a, _, dx, fs, v, rfl, s, c, n, hl, q⟩
local macro_rules | `(tactic| wtm_at "call") => `(tactic| first
  | with_reducible refine i_fld ?_
  | ((with_reducible show sp_require _ [V.bl _, _] _ _ _); first
     | (refine do_require (by first | rfl | exact decide_eq_true (by omega)) fun H' s => ?_)
     | (exfalso; omega))
  | ((with_reducible show sFld _ _ _ _ _ _ _); refine i_sfld ?_))
abbrev s_Settings_init : Stmt := inClass (topS 28) 0
abbrev N_Settings_init : List Str := ["self", "columns", "rows", "cell", "level", "width", "height", "step", "slope", "slack", "tile"]
theorem sc_Settings_init : FnScope N_Settings_init ["self", "columns", "rows", "cell", "level", "width", "height", "step", "slope", "slack", "tile"] (defScope s_Settings_init) := ⟨rfl, rfl, rfl, by decide +kernel, rfl, by decide +kernel, by decide +kernel⟩

theorem ok_init {P : Program} {w : World} {K : PySem.W.Frag} {mg : Str → Option Value} {base : Heap} (T : Tx K mg) {f : Addr} {fd : FuncData} (F : FunD K "__init__" "Settings.__init__" (defArgs (inClass (topS 28) 0)) (defBody (inClass (topS 28) 0)) (defScope (inClass (topS 28) 0)) [] [("slack", V.int 0), ("tile", V.int 8)] f fd) :
    FnOk P w K mg base CX0 2 f fd PsI (sp_Settings_init K) := by
  refine F.ok sc_Settings_init (fun vs H Q E h => ?_) fun cdv A outer s H vs Q E hr h => ?_
  · obtain ⟨a, dx, so, c, r, ce, le, w, h, st, sn, sd, sl, tl, rfl, _⟩ := h; rfl
  · have hu := hu_of hr
    suffices hh : ∃ t, PSs (cxOf CX0 P w K mg base N_Settings_init "Settings.__init__" (defScope s_Settings_init) f cdv A outer s H E).nox (defBody s_Settings_init) t ∧ t { nx := fun _ H' => Q .non H', rt := Q } (start N_Settings_init vs) H by
      obtain ⟨t, ht, q⟩ := hh
      exact ⟨t, ht.nox, q⟩
    obtain ⟨a, dx, so, c, r, ce, le, w, h, st, sn, sd, sl, tl, rfl, ha, hso, g, kk⟩ := h
    refine ⟨_, (pss_cons (ps_expr (pe_callC (cal_require (K := K) T) (hr.mono (by decide)) (by rfl) (pa_cons (pe_chain o_le o_le pe_int (pv 1) (pe_globI (by rfl) T.most_cells)) (pa_cons pe_str pa_nil))))
      (pss_cons (ps_expr (pe_callC (cal_require (K := K) T) (hr.mono (by decide)) (by rfl) (pa_cons (pe_chain o_le o_le pe_int (pv 2) (pe_globI (by rfl) T.most_cells)) (pa_cons pe_str pa_nil))))
      (pss_cons (ps_expr (pe_callC (cal_require (K := K) T) (hr.mono (by decide)) (by rfl) (pa_cons (pe_chain o_le o_le pe_int (pv 3) (pe_globI (by rfl) T.most_length)) (pa_cons pe_str pa_nil))))
      (pss_cons (ps_expr (pe_callC (cal_require (K := K) T) (hr.mono (by decide)) (by rfl) (pa_cons (pe_chain o_le o_le pe_int (pv 4) (pe_globI (by rfl) T.most_length)) (pa_cons pe_str pa_nil))))
      (pss_cons (ps_expr (pe_callC (cal_require (K := K) T) (hr.mono (by decide)) (by rfl) (pa_cons (pe_chain o_le o_le pe_int (pv 5) (pe_op o_mul pe_int (pv 3))) (pa_cons pe_str pa_nil))))
      (pss_cons (ps_expr (pe_callC (cal_require (K := K) T) (hr.mono (by decide)) (by rfl) (pa_cons (pe_chain o_le o_le pe_int (pv 6) (pe_op o_mul (pe_globI (by rfl) T.most_length) (pv 4))) (pa_cons pe_str pa_nil))))
      (pss_cons (ps_fld (pv 0) (pe_callC (cal_ceiled (K := K) T) (hr.mono (by decide)) (by rfl) (pa_cons (pv 6) (pa_cons (pv 4) pa_nil))) rfl)
      (pss_cons (ps_fld (pv 0) (pe_op o_fdiv (pv 7) (pv 4)) rfl)
      (pss_cons (ps_expr (pe_callC (cal_require (K := K) T) (hr.mono (by decide)) (by rfl) (pa_cons (pe_and (pe_cmpR op_ge1 (pv 7) pe_int (nomark _)) (pe_one (pe_cmpR o_lt (pe_op o_mul pe_int (pe_fld (pv 0) rfl)) (pe_fld (pv 0) rfl) (nomark _)))) (pa_cons pe_str pa_nil))))
      (pss_cons (ps_expr (pe_callC (cal_require (K := K) T) (hr.mono (by decide)) (by rfl) (pa_cons (pe_and (pe_chain3 o_le o_le o_le pe_int (pe_ix (x_tup K) (pv 8) pe_int (fun _ _ => rfl)) (pe_ix (x_tup K) (pv 8) pe_int (fun _ _ => rfl)) (pe_globI (by rfl) T.most_length)) (pe_one (pe_cmpR op_gt1 (pe_ix (x_tup K) (pv 8) pe_int (fun _ _ => rfl)) pe_int (nomark _)))) (pa_cons pe_str pa_nil))))
      (pss_cons (ps_expr (pe_callC (cal_require (K := K) T) (hr.mono (by decide)) (by rfl) (pa_cons (pe_chain o_le o_le pe_int (pv 9) (pe_globI (by rfl) T.most_length)) (pa_cons pe_str pa_nil))))
      (pss_cons (ps_expr (pe_callC (cal_require (K := K) T) (hr.mono (by decide)) (by rfl) (pa_cons (pe_chain o_le o_le pe_int (pv 10) pe_int) (pa_cons pe_str pa_nil))))
      (pss_cons (ps_fld (pv 0) (pv 1) rfl)
      (pss_cons (ps_fld (pv 0) (pv 2) rfl)
      (pss_cons (ps_fld (pv 0) (pv 3) rfl)
      (pss_cons (ps_fld (pv 0) (pv 4) rfl)
      (pss_cons (ps_fld (pv 0) (pv 5) rfl)
      (pss_cons (ps_fld (pv 0) (pv 6) rfl)
      (pss_cons (ps_fld (pv 0) (pv 7) rfl)
      (pss_cons (ps_fld (pv 0) (pe_callTy (c_tuple K) (by rfl) T.tuple b_tuple (pa_cons (pv 8) pa_nil)) rfl)
      (pss_cons (ps_fld (pv 0) (pv 9) rfl)
      (pss_cons (ps_fld (pv 0) (pv 10) rfl)
      (pss_one (ps_fld (pv 0) (pe_callC (cal_ceiled (K := K) T) (hr.mono (by decide)) (by rfl) (pa_cons (pv 5) (pa_cons (pv 3) pa_nil))) rfl)))))))))))))))))))))))), ?_⟩
    change (_ : TS) _ [some _, some _, some _, some _, some _, some _, some _, some _, some _, some _, some _] H
    have g1 := g.g_c; have g2 := g.g_r; have g3 := g.g_ce; have g4 := g.g_le; have g5 := g.g_w; have g6 := g.g_h; have g7 := g.g_st; have g8 := g.g_sn; have g9 := g.g_sl; have g10 := g.g_tl
    have mo := g.ok
    wtm_at "go"
    refine do_ceiled (by omega) fun H1 s1 => ?_
    have e1 : H1 a = some (.ins (CS K) dx []) := by wtm_at "hp"
    have b1 : Bt a H H1 := Bt.of (by wtm_at "sm")
    wtm_at "go"
    refine i_putB e1 T.cls T.n_tall (by exact Nat.le_of_ble_eq_true rfl) fun H2 b2 e2 => ?_
    wtm_at "go"
    refine i_putB e2 T.cls T.n_rise (by exact Nat.le_of_ble_eq_true rfl) fun H3 b3 e3 => ?_
    have b03 : Bt a H H3 := b1.trans (b2.trans b3)
    have hso3 : T2 H3 so sn sd := b03 _ _ (ne_of hso ha (by intro z; cases z)) hso
    have g7 : 0 ≤ st ∧ 2 * (st / le) < FpM.ceilM h le := g.g_st
    wtm_at "go"
    refine i_fldG e3 T.cls T.n_rise rfl ?_
    wtm_at "go"
    refine i_fldG e3 T.cls T.n_tall rfl ?_
    wtm_at "go"
    rename_i Hr sr
    have sr3 : Same H3 Hr := by wtm_at "sm"
    have e4 := sr3 _ _ e3
    refine i_putB e4 T.cls T.n_columns (by exact Nat.le_of_ble_eq_true rfl) fun H5 b5 e5 => ?_
    wtm_at "go"
    refine i_putB e5 T.cls T.n_rows (by exact Nat.le_of_ble_eq_true rfl) fun H6 b6 e6 => ?_
    wtm_at "go"
    refine i_putB e6 T.cls T.n_cell (by exact Nat.le_of_ble_eq_true rfl) fun H7 b7 e7 => ?_
    wtm_at "go"
    refine i_putB e7 T.cls T.n_level (by exact Nat.le_of_ble_eq_true rfl) fun H8 b8 e8 => ?_
    wtm_at "go"
    refine i_putB e8 T.cls T.n_width (by exact Nat.le_of_ble_eq_true rfl) fun H9 b9 e9 => ?_
    wtm_at "go"
    refine i_putB e9 T.cls T.n_height (by exact Nat.le_of_ble_eq_true rfl) fun H10 b10 e10 => ?_
    wtm_at "go"
    refine i_putB e10 T.cls T.n_step (by exact Nat.le_of_ble_eq_true rfl) fun H11 b11 e11 => ?_
    wtm_at "go"
    have b0s : Bt a H H11 := b03.trans ((Bt.of sr3).trans (b5.trans (b6.trans (b7.trans (b8.trans (b9.trans (b10.trans b11)))))))
    have hsos : T2 H11 so sn sd := b0s _ _ (ne_of hso ha (by intro z; cases z)) hso
    refine i_tupleT hsos ?_
    wtm_at "go"
    refine i_putB e11 T.cls T.n_slope (by exact Nat.le_of_ble_eq_true rfl) fun H12 b12 e12 => ?_
    wtm_at "go"
    refine i_putB e12 T.cls T.n_slack (by exact Nat.le_of_ble_eq_true rfl) fun H13 b13 e13 => ?_
    wtm_at "go"
    refine i_putB e13 T.cls T.n_tile (by exact Nat.le_of_ble_eq_true rfl) fun H14 b14 e14 => ?_
    wtm_at "go"
    refine do_ceiled (by omega) fun H15 s15 => ?_
    wtm_at "go"
    refine i_putB (s15 _ _ e14) T.cls T.n_reach (by exact Nat.le_of_ble_eq_true rfl) fun H16 b16 e16 => ?_
    wtm_at "go"
    refine kk _ (b0s.trans (b12.trans (b13.trans (b14.trans ((Bt.of s15).trans b16))))) ?_
    exact e16
end
section
/-! ### the law's draws -/
theorem SqL.same {K : PySem.W.Frag} {H H' : Hp} {a : Addr} {xs : List V} (h : SqL K H a xs) (s : Same H H') : SqL K H' a xs := by
  rcases h with (h | ⟨o, h⟩) | h
  · exact .inl (.inl (s _ _ h))
  · exact .inl (.inr ⟨o, s _ _ h⟩)
  · exact .inr h
/-- the law's state: what is left of the script, the seed -/
def StAt (H : Hp) (r l : Addr) : Prop := ∃ (cs : List Int) (n : Int), H r = some (.lst [.ref l, .int n]) ∧ H l = some (.lst (cs.map V.int)) ∧ cs.length ≤ sizeLine
theorem StAt.ne {H : Hp} {r l : Addr} (h : StAt H r l) : r ≠ l := fun z => by
  obtain ⟨cs, n, h1, h2, _⟩ := h
  rw [z, h2] at h1
  cases cs with
  | nil => cases h1
  | cons c cs => simp at h1
/-- a draw's frame -/
structure Dr (r l : Addr) (H H' : Hp) : Prop where
  bt : Bt2 r l H H'
  st : StAt H' r l
theorem Dr.trans {r l : Addr} {H H1 H2 : Hp} (a : Dr r l H H1) (b : Dr r l H1 H2) : Dr r l H H2 := ⟨a.bt.trans b.bt, b.st⟩
theorem StAt.same {H H' : Hp} {r l : Addr} (h : StAt H r l) (s : Same H H') : StAt H' r l := by
  obtain ⟨cs, n, h1, h2, h3⟩ := h
  exact ⟨cs, n, s _ _ h1, s _ _ h2, h3⟩
theorem Dr.same {r l : Addr} {H H' : Hp} (h : StAt H r l) (s : Same H H') : Dr r l H H' := ⟨Bt2.of s, h.same s⟩
/-- what is neither of the state's lists stays -/
theorem Dr.tup {r l : Addr} {H H' : Hp} (d : Dr r l H H') (h : StAt H r l) {a : Addr} {xs : List V} (e : H a = some (.tup xs)) : H' a = some (.tup xs) := by
  obtain ⟨cs, n, h1, h2, _⟩ := h
  exact d.bt _ _ (ne_of e h1 (by intro z; cases z)) (ne_of e h2 (by intro z; cases z)) e
theorem Dr.tk {r l : Addr} {H H' : Hp} (d : Dr r l H H') (h : StAt H r l) : Tk H H' := fun _ _ e => d.tup h e
theorem Dr.se {r l : Addr} {K : PySem.W.Frag} {H H' : Hp} {a : Addr} {M : FpM.Me} {tl : Int} (d : Dr r l H H') (h : StAt H r l) (s : SeAt K H a M tl) : SeAt K H' a M tl := by
  obtain ⟨dx, h1, h2, sl, e1, e2⟩ := s.ex
  obtain ⟨cs, n, q1, q2, _⟩ := h
  exact ⟨⟨dx, h1, h2, sl, d.bt _ _ (ne_of e1 q1 (by intro z; cases z)) (ne_of e1 q2 (by intro z; cases z)) e1, d.bt _ _ (ne_of e2 q1 (by intro z; cases z)) (ne_of e2 q2 (by intro z; cases z)) e2⟩, s.ok⟩
/-- tables stay too -/
theorem Dr.tb {r l : Addr} {K : PySem.W.Frag} {H H' : Hp} (d : Dr r l H H') (h : StAt H r l) (t : Tb K H) : Tb K H' := fun q hq => by
  obtain ⟨cs, n, q1, q2, _⟩ := h
  obtain ⟨ps, h1, h2, h3⟩ := t q hq
  refine ⟨ps, d.bt _ _ (ne_of h1 q1 (by intro z; cases z)) (ne_of h1 q2 (by intro z; cases z)) h1, h2, fun pos cv hc => ?_⟩
  obtain ⟨c, e1, e2⟩ := h3 pos cv hc
  exact ⟨c, e1, d.bt _ _ (ne_of e2 q1 (by unfold LamX.CodeO; intro z; cases z)) (ne_of e2 q2 (by unfold LamX.CodeO; intro z; cases z)) e2⟩
def sp_law_state (K : PySem.W.Frag) : Sp := fun vs H Q _ => ∃ (a : Addr) (ns : List Int), vs = [.ref a] ∧ SqL K H a (ns.map V.int) ∧ ns.length ≤ sizeLine ∧ ∀ r l H', Same H H' → StAt H' r l → H r = none → H l = none → Q (.ref r) H'
end
section
abbrev s_law_state : Stmt := topS 54
abbrev N_law_state : List Str := ["_law_script", "_law_seed", "_law_cell"]
theorem sc_law_state : FnScope N_law_state ["_law_script"] (defScope s_law_state) := ⟨rfl, rfl, rfl, by decide +kernel, rfl, by decide +kernel, by decide +kernel⟩
theorem bd_law_state : BindsOf ["_law_script"] "_law_state" "_law_state" s_law_state := fun _ _ _ _ _ _ us hl => match us, hl with | [_], _ => rfl
theorem cal_law_state {P : Program} {w : World} {K : PySem.W.Frag} {mg : Str → Option Value} {base : Heap} (T : Tx K mg) : Cal P w K mg base "_law_state" 1 ["_law_script"] (sp_law_state K) := by
  refine T.law_state.cal sc_law_state bd_law_state (fun vs H Q E h => ?_) (fun f cdv A outer s H vs Q E hr h => ?_)
  · obtain ⟨a, ns, rfl, hs, ln, k⟩ := h; rfl
  · have hu := hu_of hr
    obtain ⟨a, ns, rfl, hs, ln, k⟩ := h
    refine ⟨_, (pss_cons (ps_set (i := 1) sc_law_state.nd rfl (.inl rfl) pe_int)
      (pss_cons (ps_for PassesOwn.never rfl (pi_list (pv 0)) (pg_name (i := 2) sc_law_state.nd rfl (.inl rfl)) (pss_one (ps_set (i := 1) sc_law_state.nd rfl (.inl rfl) (pe_op o_mod (pe_callTy c_int (by rfl) T.int b_int (pa_cons (pe_op o_add (pe_op o_mul (pv 1) pe_int) (pv 2)) pa_nil)) pe_int))))
      (pss_one (ps_ret (pe_lst (pa_cons (pe_lc (own := [("_law_cell", 2)]) rfl sc_law_state.nd (pi_list (pv 0)) (blkOk_by (own := [("_law_cell", 2)]) (N := N_law_state) (sc := defScope (topS 54)) (by decide +kernel)) (fun _ _ _ _ _ => (pg_name (i := 2) sc_law_state.nd rfl (.inl rfl))) (fun _ _ _ _ _ => pts_nil) (fun _ _ _ _ _ => (pe_callB c_abs (by rfl) T.abs b_abs (pa_cons (pv 2) pa_nil)))) (pa_cons (pe_op o_add (pv 1) pe_int) pa_nil))))))), ?_⟩
    change (_ : TS) _ [some _, none, none] H
    wtm_at "go"
    refine ⟨a, rfl, ⟨_, hs⟩, ?_⟩
    refine for_list (xs := ns.map V.int) (fun i σ H' => (∃ (sd : Int) (y2 : Option V), σ = [some (.ref a), some (.int sd), y2] ∧ 0 ≤ sd ∧ sd < 1000003) ∧ H = H') ⟨⟨_, _, rfl, by omega, by omega⟩, rfl⟩ (fun i σ H' _ h' => by obtain ⟨_, rfl⟩ := h'; exact hs) (fun i x σ H2 hx h2 => ?_) (fun σ H2 h2 => ?_)
    · obtain ⟨⟨sd, y2, rfl, b1, b2⟩, rfl⟩ := h2
      obtain ⟨c, hc, rfl⟩ : ∃ c, ns[i]? = some c ∧ V.int c = x := by simpa using hx
      wtm_at "go"
      exact ⟨⟨_, _, rfl, Int.emod_nonneg _ (by omega), Int.emod_lt_of_pos _ (by omega)⟩, rfl⟩
    · obtain ⟨⟨sd, y2, rfl, b1, b2⟩, rfl⟩ := h2
      wtm_at "go"
      refine ⟨a, rfl, ⟨_, hs⟩, ?_⟩
      intro D hD
      refine lc_list (xs := ns.map V.int) (fun i H' => Same H H' ∧ ∃ cs : List Int, H' D = some (.lst (cs.map V.int)) ∧ cs.length = i) ⟨same_new hD, [], upd_same, rfl⟩ (fun i H' _ h' => SqL.same hs h'.1) (fun i x H' hx h' => ?_) (fun H' h' => ?_)
      · obtain ⟨s1, cs, hD1, lc⟩ := h'
        obtain ⟨c, hc, rfl⟩ : ∃ c, ns[i]? = some c ∧ V.int c = x := by simpa using hx
        have hi := (List.getElem?_eq_some_iff.mp hc).1
        change gName 2 _ [some _, _, none] _ _
        wtm_at "go"
        exact ⟨_, hD1, by simp; omega, same_mut hD s1, cs ++ [if c < 0 then -c else c], by rw [upd_same]; simp, by simp; omega⟩
      · obtain ⟨s1, cs, hD1, lc⟩ := h'
        wtm_at "go"
        rename_i r hr
        have lm : cs.length ≤ sizeLine := by rw [lc]; simpa using ln
        exact k r D _ (s1.trans (same_new hr)) ⟨cs, _, upd_same, upd_new hr hD1, lm⟩ (none_of s1 hr) hD
theorem do_law_state {K : PySem.W.Frag} {H : Hp} {Q : VK} {a : Addr} {ns : List Int} (hs : SqL K H a (ns.map V.int)) (ln : ns.length ≤ sizeLine) (k : ∀ r l H', Same H H' → StAt H' r l → H r = none → H l = none → Q (.ref r) H') : sp_law_state K [.ref a] H Q E0 := ⟨a, ns, rfl, hs, ln, k⟩
theorem i_set0 {H : Hp} {R : Hp → Prop} {p : Addr} {x v : V} {xs : List V} (s : H p = some (.lst (x :: xs))) (h : R (upd H p (.lst (v :: xs)))) : rSetL (.ref p) (.int 0) v H R := ⟨p, _, 0, 0, rfl, rfl, s, by unfold ixN; simp, h⟩
theorem i_set1 {H : Hp} {R : Hp → Prop} {p : Addr} {x y v : V} {xs : List V} (s : H p = some (.lst (x :: y :: xs))) (h : R (upd H p (.lst (x :: v :: xs)))) : rSetL (.ref p) (.int 1) v H R := ⟨p, _, 1, 1, rfl, rfl, s, by unfold ixN; simp; omega, h⟩
theorem i_gsub {to ti : TE} {t : TSet} {v : V} {σ : L2.St} {H : Hp} {Q : L2.St → Hp → Prop} (h : to σ H fun o H1 => ti σ H1 fun i H2 => t o i v H2 fun H3 => Q σ H3) : gSub to ti t v σ H Q := h
theorem i_pop0 {H : Hp} {Q : VK} {p : Addr} {x : V} {xs : List V} (s : H p = some (.lst (x :: xs))) (h : Q x (upd H p (.lst xs))) : rPopAt (.ref p) [.int 0] H Q :=
  ⟨p, _, 0, 0, x, rfl, rfl, s, by omega, by omega, by unfold seqIndex?; simp, by simp, by simpa using h⟩
def sp_law_draw (_ : PySem.W.Frag) : Sp := fun vs H Q _ => ∃ (r l : Addr) (many : Int), vs = [.ref r, .int many] ∧ StAt H r l ∧ (0 < many ∧ many < 1073741824) ∧ ∀ (i : Int) H', Dr r l H H' → 0 ≤ i ∧ i < many → Q (.int i) H'
abbrev s_law_draw : Stmt := topS 55
abbrev N_law_draw : List Str := ["_law_state_here", "_law_many", "_law_cells", "_law_value", "_law_mixed"]
theorem sc_law_draw : FnScope N_law_draw ["_law_state_here", "_law_many"] (defScope s_law_draw) := ⟨rfl, rfl, rfl, by decide +kernel, rfl, by decide +kernel, by decide +kernel⟩
theorem bd_law_draw : BindsOf ["_law_state_here", "_law_many"] "_law_draw" "_law_draw" s_law_draw := fun _ _ _ _ _ _ us hl => match us, hl with | [_, _], _ => rfl
theorem cal_law_draw {P : Program} {w : World} {K : PySem.W.Frag} {mg : Str → Option Value} {base : Heap} (T : Tx K mg) : Cal P w K mg base "_law_draw" 1 ["_law_state_here", "_law_many"] (sp_law_draw K) := by
  refine T.law_draw.cal sc_law_draw bd_law_draw (fun vs H Q E h => ?_) (fun f cdv A outer s H vs Q E hr h => ?_)
  · obtain ⟨r, l, many, rfl, hst, hm, k⟩ := h; rfl
  · have hu := hu_of hr
    obtain ⟨r, l, many, rfl, hst, hm, k⟩ := h
    refine ⟨_, (pss_cons (ps_set (i := 2) sc_law_draw.nd rfl (.inl rfl) (pe_ix (x_list K) (pv 0) pe_int (fun _ _ => rfl)))
      (pss_cons (ps_while PassesOwn.never (PW.pt (pw_and (pt_cmpR op_gt1 (pe_callB (c_len K) (by rfl) T.len PySem.boot_len (pa_cons (pv 2) pa_nil)) pe_int (nomark _)) (pw_and1 (pt_cmpR op_eq (pe_ix (x_list K) (pv 2) pe_int (fun _ _ => rfl)) pe_int (nomark _))))) (pss_one (ps_expr (pe_bm PySem.F.plainAttrs_list PySem.F.slot_list_pop PySem.F.type_list_pop mt_popAt (pv 2) (pa_cons pe_int pa_nil)))))
      (pss_cons (ps_if (pt_cmpR op_gt1 (pe_callB (c_len K) (by rfl) T.len PySem.boot_len (pa_cons (pv 2) pa_nil)) pe_int (nomark _)) (pss_cons (ps_set (i := 3) sc_law_draw.nd rfl (.inl rfl) (pe_ix (x_list K) (pv 2) pe_int (fun _ _ => rfl)))
      (pss_cons (ps_asg (pe_op o_fdiv (pv 3) (pv 1)) (pg_sub (pv 2) pe_int set_list))
      (pss_one (ps_ret (pe_op o_mod (pe_callTy c_int (by rfl) T.int b_int (pa_cons (pv 3) pa_nil)) (pv 1)))))) pss_nil)
      (pss_cons (ps_set (i := 4) sc_law_draw.nd rfl (.inl rfl) (pe_op o_mod (pe_callTy c_int (by rfl) T.int b_int (pa_cons (pe_op o_add (pe_op o_mul (pe_ix (x_list K) (pv 0) pe_int (fun _ _ => rfl)) pe_int) pe_int) pa_nil)) pe_int))
      (pss_cons (ps_asg (pv 4) (pg_sub (pv 0) pe_int set_list))
      (pss_one (ps_ret (pe_op o_mod (pe_callTy c_int (by rfl) T.int b_int (pa_cons (pe_op o_fdiv (pv 4) pe_int) pa_nil)) (pv 1))))))))), ?_⟩
    change (_ : TS) _ [some _, some _, none, none, none] H
    obtain ⟨cs, n, hr, hl, lc⟩ := id hst
    have nrl := hst.ne
    wtm_at "go"
    refine i_while ⟨fun m σ H' => σ = [some (.ref r), some (.int many), some (.ref l), none, none] ∧ Bt2 r l H H' ∧ H' r = some (.lst [.ref l, .int n]) ∧ ∃ cs : List Int, H' l = some (.lst (cs.map V.int)) ∧ cs.length ≤ sizeLine ∧ m = cs.length, ⟨_, rfl, Bt2.refl, hr, cs, hl, lc, rfl⟩, fun m σ H2 h2 => ?_⟩
    obtain ⟨rfl, b2, hr2, cs, hl2, lc, rfl⟩ := h2
    cases cs with
    | nil =>
      have hl0 : H2 l = some (.lst ([] : List V)) := hl2
      wtm_at "go"
      refine i_lenL hl0 ?_
      wtm_at "go"
      · exact absurd (show (0 : Int) < (([] : List V).length : Nat) by assumption) (by simp)
      · refine i_lenL hl0 ?_
        wtm_at "go"
        · exact absurd (show (0 : Int) < (([] : List V).length : Nat) by assumption) (by simp)
        · refine i_gsub ?_
          wtm_at "go"
          refine i_set1 hr2 ?_
          wtm_at "go"
          refine k _ _ ⟨b2.trans Bt2.fst, [], _, upd_same, by rw [upd_ne nrl.symm]; exact hl2, Nat.zero_le _⟩ ⟨Int.emod_nonneg _ (by omega), Int.emod_lt_of_pos _ hm.1⟩
    | cons c cs =>
      have hl0 : H2 l = some (.lst (.int c :: cs.map V.int)) := hl2
      have lc' : cs.length ≤ sizeLine := by simp at lc; omega
      wtm_at "go"
      refine i_lenL hl0 ?_
      wtm_at "go"
      · refine ⟨_, fun σ' H' z => z, ?_⟩
        wtm_at "go"
        refine i_pop0 hl0 ?_
        wtm_at "go"
        exact ⟨cs.length, by simp, rfl, b2.trans Bt2.snd, by rw [upd_ne nrl]; exact hr2, cs, upd_same, lc', rfl⟩
      · refine i_lenL hl0 ?_
        wtm_at "go"
        · refine i_gsub ?_
          wtm_at "go"
          refine i_set0 hl0 ?_
          wtm_at "go"
          refine k _ _ ⟨b2.trans Bt2.snd, (c / many) :: cs, n, by rw [upd_ne nrl]; exact hr2, by rw [upd_same]; rfl, by simpa using lc⟩ ⟨Int.emod_nonneg _ (by omega), Int.emod_lt_of_pos _ hm.1⟩
        · rename_i hneg
          exact absurd (show (0 : Int) < ((V.int c :: cs.map V.int).length : Nat) by simp) hneg
      · rename_i hneg
        exact absurd (show (0 : Int) < ((V.int c :: cs.map V.int).length : Nat) by simp) hneg
theorem do_law_draw {K : PySem.W.Frag} {H : Hp} {Q : VK} {r l : Addr} {many : Int} (hst : StAt H r l) (hm : 0 < many ∧ many < 1073741824) (k : ∀ (i : Int) H', Dr r l H H' → 0 ≤ i ∧ i < many → Q (.int i) H') : sp_law_draw K [.ref r, .int many] H Q E0 := ⟨r, l, many, rfl, hst, hm, k⟩
end
section
/-! ### the law's settings and shapes -/
abbrev KsI : List Str := ["columns", "rows", "cell", "level", "width", "height", "step", "slope", "slack", "tile"]
theorem kb_init {K : PySem.W.Frag} {f : Addr} {fd : FuncData} (F : FunD K "__init__" "Settings.__init__" (defArgs (inClass (topS 28) 0)) (defBody (inClass (topS 28) 0)) (defScope (inClass (topS 28) 0)) [] [("slack", V.int 0), ("tile", V.int 8)] f fd) :
    KBn K fd PsI 1 KsI (fun us ws => us ++ ws) (fun vs zs => vs ++ zs) := by
  obtain ⟨mv, h⟩ := FunD.kbinds0 F 1 KsI [] (ps := PsI) (fun us _ ws => us ++ ws) (by simp) (fun q hq => absurd hq (by simp)) (fun r1 _ r2 => r1.append r2) (fun D doc pm an cdv ct us mv ws l1 l2 l3 => by
    match us, l1, mv, l2, ws, l3 with
    | [_], _, [], _, [_, _, _, _, _, _, _, _, _, _], _ => rfl)
  exact h
theorem i_make {C : Addr} {n m : Nat} {sp : Sp} {gV : List V → List V → List V} {E : XK} {t tk : TA} {σ : L2.St} {H : Hp} {Q : VK} (h : t σ H fun vs H1 => tk σ H1 fun zs H2 => vs.length = n ∧ zs.length = m ∧ ∀ x dx, H2 x = none → H2 dx = none → dx ≠ x →
  sp (gV (.ref x :: vs) zs) (upd (upd H2 dx (.own x)) x (.ins C dx [])) (fun v H3 => v = .non ∧ Q (.ref x) H3) E) : tMakeK C n m sp gV E t tk σ H Q := h
theorem StAt.nw {H : Hp} {r l p : Addr} (h : StAt H r l) (n : H p = none) : p ≠ r ∧ p ≠ l := by
  obtain ⟨cs, m, h1, h2, _⟩ := h
  exact ⟨(ne_of_none h1 n).symm, (ne_of_none h2 n).symm⟩
theorem Dr.new {H H' : Hp} {r l p : Addr} {o : HO} (hst : StAt H r l) (n : H p = none) (d : Dr r l (upd H p o) H') : H' p = some o := d.bt _ _ (hst.nw n).1 (hst.nw n).2 upd_same
theorem Dr.add {H H' : Hp} {r l p : Addr} {o : HO} (d : Dr r l H H') (n : H' p = none) : Dr r l H (upd H' p o) := d.trans (Dr.same d.st (same_new n))
theorem Dr.refl {H : Hp} {r l : Addr} (h : StAt H r l) : Dr r l H H := ⟨Bt2.refl, h⟩
theorem i_ix3 {K : PySem.W.Frag} {H : Hp} {Q : VK} {p : Addr} {a b c i : Int} (s : H p = some (.lst [.int a, .int b, .int c])) (hi : 0 ≤ i ∧ i < 3) (h : ∀ v, (v = a ∨ v = b ∨ v = c) → Q (.int v) H) : rIxL K (.ref p) (.int i) H Q := by
  have : i = 0 ∨ i = 1 ∨ i = 2 := by omega
  rcases this with rfl | rfl | rfl
  · exact i_ixL s at0 (h _ (.inl rfl))
  · exact i_ixL s at1 (h _ (.inr (.inl rfl)))
  · exact i_ixL s at2 (h _ (.inr (.inr rfl)))
theorem i_ix4 {K : PySem.W.Frag} {H : Hp} {Q : VK} {p : Addr} {a b c d : V} {i : Int} (s : H p = some (.lst [a, b, c, d])) (hi : 0 ≤ i ∧ i < 4) (h : ∀ v, (v = a ∨ v = b ∨ v = c ∨ v = d) → Q v H) : rIxL K (.ref p) (.int i) H Q := by
  have : i = 0 ∨ i = 1 ∨ i = 2 ∨ i = 3 := by omega
  rcases this with rfl | rfl | rfl | rfl
  · exact i_ixL s at0 (h _ (.inl rfl))
  · exact i_ixL s at1 (h _ (.inr (.inl rfl)))
  · exact i_ixL s at2 (h _ (.inr (.inr (.inl rfl))))
  · exact i_ixL s at3 (h _ (.inr (.inr (.inr rfl))))
theorem i_ix5 {K : PySem.W.Frag} {H : Hp} {Q : VK} {p : Addr} {a b c d e i : Int} (s : H p = some (.lst [.int a, .int b, .int c, .int d, .int e])) (hi : 0 ≤ i ∧ i < 5) (h : ∀ v, (v = a ∨ v = b ∨ v = c ∨ v = d ∨ v = e) → Q (.int v) H) : rIxL K (.ref p) (.int i) H Q := by
  have : i = 0 ∨ i = 1 ∨ i = 2 ∨ i = 3 ∨ i = 4 := by omega
  rcases this with rfl | rfl | rfl | rfl | rfl
  · exact i_ixL s at0 (h _ (.inl rfl))
  · exact i_ixL s at1 (h _ (.inr (.inl rfl)))
  · exact i_ixL s at2 (h _ (.inr (.inr (.inl rfl))))
  · exact i_ixL s at3 (h _ (.inr (.inr (.inr (.inl rfl)))))
  · exact i_ixL s at4 (h _ (.inr (.inr (.inr (.inr rfl)))))
end
section
local macro_rules | `(tactic| wtm_at "sta") => `(tactic| first
  | assumption
  | exact Dr.st (by assumption)
  | (refine StAt.same ?_ (same_new (by assumption)); wtm_at "sta")
  | (refine StAt.same ?_ (by assumption : Same _ _); wtm_at "sta"))
local macro_rules | `(tactic| wtm_at "go1") => `(tactic| first
  | with_reducible refine i_make ?_)
def sp_law_settings (K : PySem.W.Frag) : Sp := fun vs H Q _ => ∃ (r l : Addr), vs = [.ref r] ∧ StAt H r l ∧ ∀ (a : Addr) (M : FpM.Me) (tl : Int) H', Dr r l H H' → SeAt K H' a M tl → Q (.ref a) H'
abbrev s_law_settings : Stmt := topS 56
abbrev N_law_settings : List Str := ["_law_state_here", "_law_columns", "_law_rows", "_law_cell", "_law_level", "_law_tall", "_law_height", "_law_step", "_law_width", "_law_slope", "_law_slack"]
theorem sc_law_settings : FnScope N_law_settings ["_law_state_here"] (defScope s_law_settings) := ⟨rfl, rfl, rfl, by decide +kernel, rfl, by decide +kernel, by decide +kernel⟩
theorem bd_law_settings : BindsOf ["_law_state_here"] "_law_settings" "_law_settings" s_law_settings := fun _ _ _ _ _ _ us hl => match us, hl with | [_], _ => rfl

theorem cal_law_settings {P : Program} {w : World} {K : PySem.W.Frag} {mg : Str → Option Value} {base : Heap} (T : Tx K mg) : Cal P w K mg base "_law_settings" 4 ["_law_state_here"] (sp_law_settings K) := by
  obtain ⟨fi, fdi, Fi, Mi⟩ := T.init
  refine T.law_settings.cal sc_law_settings bd_law_settings (fun vs H Q E h => ?_) (fun f cdv A outer s H vs Q E hr h => ?_)
  · obtain ⟨r, l, rfl, _⟩ := h; rfl
  · have hu := hu_of hr
    obtain ⟨r, l, rfl, hst, k⟩ := h
    refine ⟨_, (pss_cons (ps_set (i := 1) sc_law_settings.nd rfl (.inl rfl) (pe_op o_add pe_int (pe_callC (cal_law_draw (K := K) T) (hr.mono (by decide)) (by rfl) (pa_cons (pv 0) (pa_cons pe_int pa_nil)))))
      (pss_cons (ps_set (i := 2) sc_law_settings.nd rfl (.inl rfl) (pe_op o_add pe_int (pe_callC (cal_law_draw (K := K) T) (hr.mono (by decide)) (by rfl) (pa_cons (pv 0) (pa_cons pe_int pa_nil)))))
      (pss_cons (ps_set (i := 3) sc_law_settings.nd rfl (.inl rfl) (pe_ix (x_list K) (pe_lst (pa_cons pe_int (pa_cons pe_int (pa_cons pe_int pa_nil)))) (pe_callC (cal_law_draw (K := K) T) (hr.mono (by decide)) (by rfl) (pa_cons (pv 0) (pa_cons pe_int pa_nil))) (fun _ _ => rfl)))
      (pss_cons (ps_set (i := 4) sc_law_settings.nd rfl (.inl rfl) (pe_ix (x_list K) (pe_lst (pa_cons pe_int (pa_cons pe_int (pa_cons pe_int pa_nil)))) (pe_callC (cal_law_draw (K := K) T) (hr.mono (by decide)) (by rfl) (pa_cons (pv 0) (pa_cons pe_int pa_nil))) (fun _ _ => rfl)))
      (pss_cons (ps_set (i := 5) sc_law_settings.nd rfl (.inl rfl) (pe_op o_add pe_int (pe_callC (cal_law_draw (K := K) T) (hr.mono (by decide)) (by rfl) (pa_cons (pv 0) (pa_cons pe_int pa_nil)))))
      (pss_cons (ps_set (i := 6) sc_law_settings.nd rfl (.inl rfl) (pe_op o_sub (pe_op o_mul (pv 5) (pv 4)) (pe_callC (cal_law_draw (K := K) T) (hr.mono (by decide)) (by rfl) (pa_cons (pv 0) (pa_cons (pv 4) pa_nil)))))
      (pss_cons (ps_set (i := 7) sc_law_settings.nd rfl (.inl rfl) (pe_op o_add (pe_op o_mul (pe_callC (cal_law_draw (K := K) T) (hr.mono (by decide)) (by rfl) (pa_cons (pv 0) (pa_cons (pe_op o_fdiv (pe_op o_add (pv 5) pe_int) pe_int) pa_nil))) (pv 4)) (pe_callC (cal_law_draw (K := K) T) (hr.mono (by decide)) (by rfl) (pa_cons (pv 0) (pa_cons (pv 4) pa_nil)))))
      (pss_cons (ps_set (i := 8) sc_law_settings.nd rfl (.inl rfl) (pe_callC (cal_law_draw (K := K) T) (hr.mono (by decide)) (by rfl) (pa_cons (pv 0) (pa_cons (pe_ix (x_list K) (pe_lst (pa_cons pe_int (pa_cons (pe_op o_add (pv 3) pe_int) (pa_cons (pe_op o_add (pe_op o_mul pe_int (pv 3)) pe_int) pa_nil)))) (pe_callC (cal_law_draw (K := K) T) (hr.mono (by decide)) (by rfl) (pa_cons (pv 0) (pa_cons pe_int pa_nil))) (fun _ _ => rfl)) pa_nil))))
      (pss_cons (ps_set (i := 9) sc_law_settings.nd rfl (.inl rfl) (pe_ix (x_list K) (pe_lst (pa_cons (pe_tup (pa_cons pe_int (pa_cons pe_int pa_nil))) (pa_cons (pe_tup (pa_cons pe_int (pa_cons pe_int pa_nil))) (pa_cons (pe_tup (pa_cons pe_int (pa_cons pe_int pa_nil))) (pa_cons (pe_tup (pa_cons pe_int (pa_cons pe_int pa_nil))) pa_nil))))) (pe_callC (cal_law_draw (K := K) T) (hr.mono (by decide)) (by rfl) (pa_cons (pv 0) (pa_cons pe_int pa_nil))) (fun _ _ => rfl)))
      (pss_cons (ps_set (i := 10) sc_law_settings.nd rfl (.inl rfl) (pe_ix (x_list K) (pe_lst (pa_cons pe_int (pa_cons pe_int (pa_cons pe_int (pa_cons pe_int pa_nil))))) (pe_callC (cal_law_draw (K := K) T) (hr.mono (by decide)) (by rfl) (pa_cons (pv 0) (pa_cons pe_int pa_nil))) (fun _ _ => rfl)))
      (pss_one (ps_ret (pe_makeK0 Mi (ok_init T Fi) (hr.mono (by decide)) (by rfl) T.gS (kb_init Fi) pass0 (pk_cons (pv 1) (pk_cons (pv 2) (pk_cons (pv 3) (pk_cons (pv 4) (pk_cons (pv 8) (pk_cons (pv 6) (pk_cons (pv 7) (pk_cons (pv 9) (pk_cons (pv 10) (pk_cons (pe_op o_add pe_int (pe_callC (cal_law_draw (K := K) T) (hr.mono (by decide)) (by rfl) (pa_cons (pv 0) (pa_cons pe_int pa_nil)))) pk_nil))))))))))))))))))))))), ?_⟩
    change (_ : TS) _ [some _, none, none, none, none, none, none, none, none, none, none] H
    have d0 := Dr.refl hst
    wtm_at "go"
    refine do_law_draw hst (by omega) fun i1 H1 d1 q1 => ?_
    wtm_at "go"
    refine do_law_draw d1.st (by omega) fun i2 H2 d2 q2 => ?_
    wtm_at "go"
    rename_i p3 hp3
    refine do_law_draw (d2.st.same (same_new hp3)) (by omega) fun i3 H3 d3 q3 => ?_
    refine i_ix3 (Dr.new d2.st hp3 d3) q3 fun ce hce => ?_
    have e3 := ((d1.trans d2).add hp3).trans d3
    wtm_at "go"
    rename_i p4 hp4
    refine do_law_draw (d3.st.same (same_new hp4)) (by omega) fun i4 H4 d4 q4 => ?_
    refine i_ix3 (Dr.new d3.st hp4 d4) q4 fun le hle => ?_
    have e4 := (e3.add hp4).trans d4
    wtm_at "go"
    refine do_law_draw d4.st (by omega) fun i5 H5 d5 q5 => ?_
    wtm_at "go"
    refine do_law_draw d5.st (by omega) fun i6 H6 d6 q6 => ?_
    wtm_at "go"
    refine do_law_draw d6.st (by omega) fun i7 H7 d7 q7 => ?_
    wtm_at "go"
    refine do_law_draw d7.st (by omega) fun i8 H8 d8 q8 => ?_
    have e8 := (((e4.trans d5).trans d6).trans d7).trans d8
    wtm_at "go"
    rename_i p9 hp9
    refine do_law_draw (d8.st.same (same_new hp9)) (by omega) fun i9 H9 d9 q9 => ?_
    refine i_ix3 (Dr.new d8.st hp9 d9) q9 fun wm hwm => ?_
    have e9 := (e8.add hp9).trans d9
    wtm_at "go"
    refine do_law_draw d9.st (by omega) fun i10 H10 d10 q10 => ?_
    have e10 := e9.trans d10
    wtm_at "go"
    rename_i t1 ht1 t2 ht2 t3 ht3 t4 ht4 p11 hp11
    have sB : Same H10 (upd (upd (upd (upd H10 t1 (.tup [.int 0, .int 1])) t2 (.tup [.int 1, .int 2])) t3 (.tup [.int 9, .int 10])) t4 (.tup [.int 1, .int 1])) := (same_new ht1).trans ((same_new ht2).trans ((same_new ht3).trans (same_new ht4)))
    have f1 : T2 (upd (upd (upd (upd H10 t1 (.tup [.int 0, .int 1])) t2 (.tup [.int 1, .int 2])) t3 (.tup [.int 9, .int 10])) t4 (.tup [.int 1, .int 1])) t1 0 1 := upd_new ht4 (upd_new ht3 (upd_new ht2 upd_same))
    have f2 : T2 (upd (upd (upd (upd H10 t1 (.tup [.int 0, .int 1])) t2 (.tup [.int 1, .int 2])) t3 (.tup [.int 9, .int 10])) t4 (.tup [.int 1, .int 1])) t2 1 2 := upd_new ht4 (upd_new ht3 upd_same)
    have f3 : T2 (upd (upd (upd (upd H10 t1 (.tup [.int 0, .int 1])) t2 (.tup [.int 1, .int 2])) t3 (.tup [.int 9, .int 10])) t4 (.tup [.int 1, .int 1])) t3 9 10 := upd_new ht4 upd_same
    have f4 : T2 (upd (upd (upd (upd H10 t1 (.tup [.int 0, .int 1])) t2 (.tup [.int 1, .int 2])) t3 (.tup [.int 9, .int 10])) t4 (.tup [.int 1, .int 1])) t4 1 1 := upd_same
    generalize upd (upd (upd (upd H10 t1 (.tup [.int 0, .int 1])) t2 (.tup [.int 1, .int 2])) t3 (.tup [.int 9, .int 10])) t4 (.tup [.int 1, .int 1]) = HB at sB f1 f2 f3 f4 hp11
    have stB : StAt HB r l := d10.st.same sB
    refine do_law_draw (stB.same (same_new hp11)) (by omega) fun i11 H11 d11 q11 => ?_
    have eB := e10.trans (Dr.same d10.st sB)
    have e11 := (eB.add hp11).trans d11
    have dB11 : Dr r l HB H11 := (Dr.same stB (same_new hp11)).trans d11
    refine i_ix4 (Dr.new stB hp11 d11) q11 fun sv hsv => ?_
    obtain ⟨so, sn, sd, rfl, hso, hsnd⟩ : ∃ so sn sd, sv = .ref so ∧ T2 H11 so sn sd ∧ (0 ≤ sn ∧ sn ≤ sd ∧ sd ≤ 1000 ∧ 0 < sd) := by
      rcases hsv with rfl | rfl | rfl | rfl
      · exact ⟨_, _, _, rfl, dB11.tup stB f1, by omega⟩
      · exact ⟨_, _, _, rfl, dB11.tup stB f2, by omega⟩
      · exact ⟨_, _, _, rfl, dB11.tup stB f3, by omega⟩
      · exact ⟨_, _, _, rfl, dB11.tup stB f4, by omega⟩
    wtm_at "go"
    rename_i p12 hp12
    refine do_law_draw (d11.st.same (same_new hp12)) (by omega) fun i12 H12 d12 q12 => ?_
    refine i_ix4 (Dr.new d11.st hp12 d12) q12 fun slv hsl => ?_
    obtain ⟨sl, rfl, hsl2⟩ : ∃ sl : Int, slv = .int sl ∧ 0 ≤ sl ∧ sl ≤ 3 := by
      rcases hsl with rfl | rfl | rfl | rfl
      · exact ⟨_, rfl, by omega⟩
      · exact ⟨_, rfl, by omega⟩
      · exact ⟨_, rfl, by omega⟩
      · exact ⟨_, rfl, by omega⟩
    have e12 := (e11.add hp12).trans d12
    have hso12 : T2 H12 so sn sd := ((Dr.same d11.st (same_new hp12)).trans d12).tup d11.st hso
    wtm_at "go"
    refine do_law_draw d12.st (by omega) fun i13 H13 d13 q13 => ?_
    have e13 := e12.trans d13
    have hso13 : T2 H13 so sn sd := d13.tup d12.st hso12
    have gv : Giv (2 + i1) (1 + i2) ce le i10 ((3 + i5) * le - i6) (i7 * le + i8) sn sd sl (2 + i13) := by
      have c1 : FpM.ceilM ((3 + i5) * le - i6) le = 3 + i5 ∧ (i7 * le + i8) / le = i7 ∧ 1 ≤ (3 + i5) * le - i6 ∧ (3 + i5) * le - i6 ≤ 10 * le ∧ 0 ≤ i7 * le + i8 := by
        unfold FpM.ceilM
        rcases hle with rfl | rfl | rfl <;> omega
      refine ⟨by omega, by omega, by omega, by omega, by omega, ⟨c1.2.2.1, c1.2.2.2.1⟩, ⟨c1.2.2.2.2, ?_⟩, hsnd, hsl2, by omega⟩
      rw [c1.1, c1.2.1]
      omega
    wtm_at "go"
    refine ⟨rfl, rfl, fun x dx hx hdx ndx => ?_⟩
    have nx : upd H13 dx (.own x) x = none := by rw [upd_ne ndx.symm]; exact hx
    have s14 : Same H13 (upd (upd H13 dx (.own x)) x (.ins (CS K) dx [])) := (same_new hdx).trans (same_new nx)
    refine ⟨x, dx, so, 2 + i1, 1 + i2, ce, le, i10, (3 + i5) * le - i6, i7 * le + i8, sn, sd, sl, 2 + i13, rfl, upd_same, s14 _ _ hso13, gv, fun H15 b15 h15 => ⟨rfl, ?_⟩⟩
    have b13 : ∀ b o, H13 b = some o → H15 b = some o := fun b o h => b15 _ _ (ne_of_none h hx) (s14 _ _ h)
    wtm_at "go"
    exact k x _ _ _ (e13.trans (Dr.same d13.st b13)) ⟨⟨dx, _, _, so, h15, b13 _ _ hso13⟩, gv.ok⟩
theorem do_law_settings {K : PySem.W.Frag} {H : Hp} {Q : VK} {r l : Addr} (hst : StAt H r l) (k : ∀ (a : Addr) (M : FpM.Me) (tl : Int) H', Dr r l H H' → SeAt K H' a M tl → Q (.ref a) H') : sp_law_settings K [.ref r] H Q E0 := ⟨r, l, rfl, hst, k⟩
end
section
local macro_rules | `(tactic| wtm_at "sta") => `(tactic| first
  | assumption
  | exact Dr.st (by assumption)
  | (refine StAt.same ?_ (same_new (by assumption)); wtm_at "sta")
  | (refine StAt.same ?_ (by assumption : Same _ _); wtm_at "sta"))
theorem mulb {c x a b : Int} (h0 : 0 ≤ c) (h1 : a ≤ x) (h2 : x ≤ b) : a * c ≤ x * c ∧ x * c ≤ b * c := ⟨FpM.scale h0 h1, FpM.scale h0 h2⟩
def sp_law_along (_ : PySem.W.Frag) : Sp := fun vs H Q _ => ∃ (r l : Addr) (many cell : Int), vs = [.ref r, .int many, .int cell] ∧ StAt H r l ∧ (1 ≤ many ∧ many ≤ 6) ∧ (3 ≤ cell ∧ cell ≤ 10) ∧ ∀ (i : Int) H', Dr r l H H' → -100 ≤ i ∧ i ≤ 100 → Q (.int i) H'
abbrev s_law_along : Stmt := topS 57
abbrev N_law_along : List Str := ["_law_state_here", "_law_many", "_law_cell", "_law_kind"]
theorem sc_law_along : FnScope N_law_along ["_law_state_here", "_law_many", "_law_cell"] (defScope s_law_along) := ⟨rfl, rfl, rfl, by decide +kernel, rfl, by decide +kernel, by decide +kernel⟩
theorem bd_law_along : BindsOf ["_law_state_here", "_law_many", "_law_cell"] "_law_along" "_law_along" s_law_along := fun _ _ _ _ _ _ us hl => match us, hl with | [_, _, _], _ => rfl
theorem cal_law_along {P : Program} {w : World} {K : PySem.W.Frag} {mg : Str → Option Value} {base : Heap} (T : Tx K mg) : Cal P w K mg base "_law_along" 2 ["_law_state_here", "_law_many", "_law_cell"] (sp_law_along K) := by
  refine T.law_along.cal sc_law_along bd_law_along (fun vs H Q E h => ?_) (fun f cdv A outer s H vs Q E hr h => ?_)
  · obtain ⟨r, l, many, cell, rfl, hst, hm, hc, k⟩ := h; rfl
  · have hu := hu_of hr
    obtain ⟨r, l, many, cell, rfl, hst, hm, hc, k⟩ := h
    refine ⟨_, (pss_cons (ps_set (i := 3) sc_law_along.nd rfl (.inl rfl) (pe_callC (cal_law_draw (K := K) T) (hr.mono (by decide)) (by rfl) (pa_cons (pv 0) (pa_cons pe_int pa_nil))))
      (pss_cons (ps_if (pt_cmpR op_eq (pv 3) pe_int (nomark _)) (pss_one (ps_ret (pe_op o_mul (pv 2) (pe_op o_sub (pe_callC (cal_law_draw (K := K) T) (hr.mono (by decide)) (by rfl) (pa_cons (pv 0) (pa_cons (pe_op o_add (pv 1) pe_int) pa_nil))) pe_int)))) pss_nil)
      (pss_cons (ps_if (pt_cmpR op_eq (pv 3) pe_int (nomark _)) (pss_one (ps_ret (pe_callC (cal_law_draw (K := K) T) (hr.mono (by decide)) (by rfl) (pa_cons (pv 0) (pa_cons (pe_op o_add (pe_op o_mul (pv 1) (pv 2)) pe_int) pa_nil))))) pss_nil)
      (pss_one (ps_ret (pe_op o_sub (pe_callC (cal_law_draw (K := K) T) (hr.mono (by decide)) (by rfl) (pa_cons (pv 0) (pa_cons (pe_op o_mul (pe_op o_add (pv 1) pe_int) (pv 2)) pa_nil))) (pe_op o_mul pe_int (pv 2)))))))), ?_⟩
    change (_ : TS) _ [some _, some _, some _, none] H
    have m1 := mulb (c := cell) (by omega) hm.1 hm.2
    have m4 : (many + 4) * cell = many * cell + 4 * cell := by rw [Int.add_mul]
    wtm_at "go"
    refine do_law_draw hst (by omega) fun i1 H1 d1 q1 => ?_
    wtm_at "go"
    · refine do_law_draw d1.st (by omega) fun i2 H2 d2 q2 => ?_
      have m2 := mulb (c := cell) (x := i2 - 1) (a := -1) (b := 7) (by omega) (by omega) (by omega)
      have e2 : cell * (i2 - 1) = (i2 - 1) * cell := Int.mul_comm _ _
      wtm_at "go"
      exact k _ _ (d1.trans d2) (by omega)
    · refine do_law_draw d1.st (by omega) fun i2 H2 d2 q2 => ?_
      exact k _ _ (d1.trans d2) (by omega)
    · refine do_law_draw d1.st (by omega) fun i2 H2 d2 q2 => ?_
      wtm_at "go"
      exact k _ _ (d1.trans d2) (by omega)
theorem do_law_along {K : PySem.W.Frag} {H : Hp} {Q : VK} {r l : Addr} {many cell : Int} (hst : StAt H r l) (hm : 1 ≤ many ∧ many ≤ 6) (hc : 3 ≤ cell ∧ cell ≤ 10) (k : ∀ (i : Int) H', Dr r l H H' → -100 ≤ i ∧ i ≤ 100 → Q (.int i) H') : sp_law_along K [.ref r, .int many, .int cell] H Q E0 := ⟨r, l, many, cell, rfl, hst, hm, hc, k⟩
theorem Dr.f {r l : Addr} {K : PySem.W.Frag} {H H' : Hp} {a dx sl : Addr} {M : FpM.Me} {h st tl : Int} (d : Dr r l H H') (hst : StAt H r l) (s : H a = some (.ins (CS K) dx (sf M h st tl sl))) : H' a = some (.ins (CS K) dx (sf M h st tl sl)) := by
  obtain ⟨cs, n, h1, h2, _⟩ := hst
  exact d.bt _ _ (ne_of s h1 (by intro z; cases z)) (ne_of s h2 (by intro z; cases z)) s
def BxOk (b : FpM.Bx) : Prop := b.x0 ≤ b.x1 ∧ b.y0 ≤ b.y1 ∧ b.z0 ≤ b.z1 ∧ -900 ≤ b.y1 ∧ b.y1 ≤ 900
def sp_law_box (K : PySem.W.Frag) : Sp := fun vs H Q _ => ∃ (r l s : Addr) (M : FpM.Me) (tl : Int), vs = [.ref r, .ref s] ∧ StAt H r l ∧ SeAt K H s M tl ∧ ∀ (a : Addr) (b : FpM.Bx) H', Dr r l H H' → BxAt H' a b → BxOk b → Q (.ref a) H'
abbrev s_law_box : Stmt := topS 61
abbrev N_law_box : List Str := ["_law_state_here", "_law_settings_here", "_law_x", "_law_z", "_law_y", "_law_wide", "_law_deep"]
theorem sc_law_box : FnScope N_law_box ["_law_state_here", "_law_settings_here"] (defScope s_law_box) := ⟨rfl, rfl, rfl, by decide +kernel, rfl, by decide +kernel, by decide +kernel⟩
theorem bd_law_box : BindsOf ["_law_state_here", "_law_settings_here"] "_law_box" "_law_box" s_law_box := fun _ _ _ _ _ _ us hl => match us, hl with | [_, _], _ => rfl
theorem cal_law_box {P : Program} {w : World} {K : PySem.W.Frag} {mg : Str → Option Value} {base : Heap} (T : Tx K mg) : Cal P w K mg base "_law_box" 3 ["_law_state_here", "_law_settings_here"] (sp_law_box K) := by
  refine T.law_box.cal sc_law_box bd_law_box (fun vs H Q E h => ?_) (fun f cdv A outer s H vs Q E hr h => ?_)
  · obtain ⟨r, l, s, M, tl, rfl, hst, hse, k⟩ := h; rfl
  · have hu := hu_of hr
    obtain ⟨r, l, s, M, tl, rfl, hst, hse, k⟩ := h
    refine ⟨_, (pss_cons (ps_set (i := 2) sc_law_box.nd rfl (.inl rfl) (pe_callC (cal_law_along (K := K) T) (hr.mono (by decide)) (by rfl) (pa_cons (pv 0) (pa_cons (pe_fld (pv 1) rfl) (pa_cons (pe_fld (pv 1) rfl) pa_nil)))))
      (pss_cons (ps_set (i := 3) sc_law_box.nd rfl (.inl rfl) (pe_callC (cal_law_along (K := K) T) (hr.mono (by decide)) (by rfl) (pa_cons (pv 0) (pa_cons (pe_fld (pv 1) rfl) (pa_cons (pe_fld (pv 1) rfl) pa_nil)))))
      (pss_cons (ps_set (i := 4) sc_law_box.nd rfl (.inl rfl) (pe_op o_sub (pe_callC (cal_law_draw (K := K) T) (hr.mono (by decide)) (by rfl) (pa_cons (pv 0) (pa_cons pe_int pa_nil))) pe_int))
      (pss_cons (ps_set (i := 5) sc_law_box.nd rfl (.inl rfl) (pe_op o_add pe_int (pe_callC (cal_law_draw (K := K) T) (hr.mono (by decide)) (by rfl) (pa_cons (pv 0) (pa_cons (pe_op o_mul pe_int (pe_fld (pv 1) rfl)) pa_nil)))))
      (pss_cons (ps_set (i := 6) sc_law_box.nd rfl (.inl rfl) (pe_op o_add pe_int (pe_callC (cal_law_draw (K := K) T) (hr.mono (by decide)) (by rfl) (pa_cons (pv 0) (pa_cons (pe_op o_mul pe_int (pe_fld (pv 1) rfl)) pa_nil)))))
      (pss_one (ps_ret (pe_tup (pa_cons (pv 2) (pa_cons (pv 4) (pa_cons (pv 3) (pa_cons (pe_op o_add (pv 2) (pv 5)) (pa_cons (pe_op o_add (pe_op o_add (pv 4) pe_int) (pe_callC (cal_law_draw (K := K) T) (hr.mono (by decide)) (by rfl) (pa_cons (pv 0) (pa_cons pe_int pa_nil)))) (pa_cons (pe_op o_add (pv 3) (pv 6)) (pa_cons (pe_cmpR op_eq (pe_callC (cal_law_draw (K := K) T) (hr.mono (by decide)) (by rfl) (pa_cons (pv 0) (pa_cons pe_int pa_nil))) pe_int (nomark _)) pa_nil))))))))))))))), ?_⟩
    change (_ : TS) _ [some _, some _, none, none, none, none, none] H
    have ⟨⟨dx, h1, h2, sl, e1, e2⟩, mo⟩ := hse
    have mc := mo.cell
    have mr := mo.rows
    have mcl := mo.columns
    wtm_at "go"
    refine do_law_along hst mcl mc fun i1 H1 d1 q1 => ?_
    have f1 := d1.f hst e1
    wtm_at "go"
    refine do_law_along d1.st (by omega) mc fun i2 H2 d2 q2 => ?_
    have f2 := d2.f d1.st f1
    wtm_at "go"
    refine do_law_draw d2.st (by omega) fun i3 H3 d3 q3 => ?_
    have f3 := d3.f d2.st f2
    wtm_at "go"
    refine do_law_draw d3.st (by omega) fun i4 H4 d4 q4 => ?_
    have f4 := d4.f d3.st f3
    wtm_at "go"
    refine do_law_draw d4.st (by omega) fun i5 H5 d5 q5 => ?_
    wtm_at "go"
    refine do_law_draw d5.st (by omega) fun i6 H6 d6 q6 => ?_
    wtm_at "go"
    refine do_law_draw d6.st (by omega) fun i7 H7 d7 q7 => ?_
    wtm_at "go"
    rename_i a ha
    have e7 := (((((d1.trans d2).trans d3).trans d4).trans d5).trans d6).trans d7
    exact k a ⟨i1, i3 - 5, i2, i1 + (1 + i4), i3 - 5 + 1 + i6, i2 + (1 + i5), decide (i7 = 0)⟩ _ (e7.add ha) upd_same ⟨by simp only; omega, by simp only; omega, by simp only; omega, by simp only; omega, by simp only; omega⟩
theorem do_law_box {K : PySem.W.Frag} {H : Hp} {Q : VK} {r l s : Addr} {M : FpM.Me} {tl : Int} (hst : StAt H r l) (hse : SeAt K H s M tl) (k : ∀ (a : Addr) (b : FpM.Bx) H', Dr r l H H' → BxAt H' a b → BxOk b → Q (.ref a) H') : sp_law_box K [.ref r, .ref s] H Q E0 := ⟨r, l, s, M, tl, rfl, hst, hse, k⟩
/-- points -/
def PtV (H : Hp) (v : V) (p : FpM.Pt) : Prop := ∃ a, v = .ref a ∧ T3 H a p.x p.y p.z
theorem PtV.tt {H H' : Hp} {v : V} {p : FpM.Pt} (h : PtV H v p) (t : Tk H H') : PtV H' v p := by
  obtain ⟨a, rfl, e⟩ := h
  exact ⟨a, rfl, t _ _ e⟩
def SmP (p : FpM.Pt) : Prop := Sm p.x ∧ Sm p.y ∧ Sm p.z
theorem Dr.mut {r l P : Addr} {H H' : Hp} {o : HO} (d : Dr r l H H') (n : H P = none) (hst : StAt H r l) : Dr r l H (upd H' P o) := by
  have nn := hst.nw n
  refine ⟨fun b u n1 n2 h => by rw [upd_ne (ne_of_none h n)]; exact d.bt b u n1 n2 h, ?_⟩
  obtain ⟨cs, m, h1, h2, h3⟩ := d.st
  exact ⟨cs, m, by rw [upd_ne nn.1.symm]; exact h1, by rw [upd_ne nn.2.symm]; exact h2, h3⟩
theorem i_par3 {i j l : Nat} {ta : TA} {D : Ends} {σ : L2.St} {H : Hp} (h : ta σ H fun vs H1 => ∃ u v w, vs = [u, v, w] ∧ D.nx (((σ.set i (some u)).set j (some v)).set l (some w)) H1) : tPar3 i j l ta D σ H := h
def sp_law_triangle (K : PySem.W.Frag) : Sp := fun vs H Q _ => ∃ (r l s : Addr) (M : FpM.Me) (tl : Int), vs = [.ref r, .ref s] ∧ StAt H r l ∧ SeAt K H s M tl ∧ ∀ (a : Addr) (R : FpM.Tr) H', Dr r l H H' → TriAt H' a R → TrSm R → Q (.ref a) H'
abbrev s_law_triangle : Stmt := topS 58
abbrev N_law_triangle : List Str := ["_law_state_here", "_law_settings_here", "_law_kind", "_law_points", "_law_high", "_law_k", "_law_x", "_law_z", "_law_y"]
theorem sc_law_triangle : FnScope N_law_triangle ["_law_state_here", "_law_settings_here"] (defScope s_law_triangle) := ⟨rfl, rfl, rfl, by decide +kernel, rfl, by decide +kernel, by decide +kernel⟩
theorem bd_law_triangle : BindsOf ["_law_state_here", "_law_settings_here"] "_law_triangle" "_law_triangle" s_law_triangle := fun _ _ _ _ _ _ us hl => match us, hl with | [_, _], _ => rfl
theorem cal_law_triangle {P : Program} {w : World} {K : PySem.W.Frag} {mg : Str → Option Value} {base : Heap} (T : Tx K mg) : Cal P w K mg base "_law_triangle" 3 ["_law_state_here", "_law_settings_here"] (sp_law_triangle K) := by
  refine T.law_triangle.cal sc_law_triangle bd_law_triangle (fun vs H Q E h => ?_) (fun f cdv A outer s H vs Q E hr h => ?_)
  · obtain ⟨r, l, s, M, tl, rfl, hst, hse, k⟩ := h; rfl
  · have hu := hu_of hr
    obtain ⟨r, l, s, M, tl, rfl, hst, hse, k⟩ := h
    refine ⟨_, (pss_cons (ps_set (i := 2) sc_law_triangle.nd rfl (.inl rfl) (pe_callC (cal_law_draw (K := K) T) (hr.mono (by decide)) (by rfl) (pa_cons (pv 0) (pa_cons pe_int pa_nil))))
      (pss_cons (ps_set (i := 3) sc_law_triangle.nd rfl (.inl rfl) (pe_lst pa_nil))
      (pss_cons (ps_set (i := 4) sc_law_triangle.nd rfl (.inl rfl) (pe_op o_mul (pe_callC (cal_law_draw (K := K) T) (hr.mono (by decide)) (by rfl) (pa_cons (pv 0) (pa_cons pe_int pa_nil))) (pe_fld (pv 1) rfl)))
      (pss_cons (ps_for PassesOwn.never rfl (pi_range1 (by rfl) T.range (pa_cons pe_int pa_nil)) (pg_name (i := 5) sc_law_triangle.nd rfl (.inl rfl)) (pss_cons (ps_set (i := 6) sc_law_triangle.nd rfl (.inl rfl) (pe_callC (cal_law_along (K := K) T) (hr.mono (by decide)) (by rfl) (pa_cons (pv 0) (pa_cons (pe_fld (pv 1) rfl) (pa_cons (pe_fld (pv 1) rfl) pa_nil)))))
      (pss_cons (ps_set (i := 7) sc_law_triangle.nd rfl (.inl rfl) (pe_callC (cal_law_along (K := K) T) (hr.mono (by decide)) (by rfl) (pa_cons (pv 0) (pa_cons (pe_fld (pv 1) rfl) (pa_cons (pe_fld (pv 1) rfl) pa_nil)))))
      (pss_cons (ps_set (i := 8) sc_law_triangle.nd rfl (.inl rfl) (pe_ix (x_list K) (pe_lst (pa_cons (pv 4) (pa_cons (pe_op o_add (pv 4) (pe_callC (cal_law_draw (K := K) T) (hr.mono (by decide)) (by rfl) (pa_cons (pv 0) (pa_cons pe_int pa_nil)))) (pa_cons (pe_op o_sub (pe_callC (cal_law_draw (K := K) T) (hr.mono (by decide)) (by rfl) (pa_cons (pv 0) (pa_cons pe_int pa_nil))) pe_int) (pa_cons (pv 4) (pa_cons (pe_op o_add (pv 4) (pe_callC (cal_law_draw (K := K) T) (hr.mono (by decide)) (by rfl) (pa_cons (pv 0) (pa_cons pe_int pa_nil)))) pa_nil)))))) (pv 2) (fun _ _ => rfl)))
      (Evl.pss_cut (ps_if (PW.pt (pw_and (pt_cmpR op_eq (pv 2) pe_int (nomark _)) (pw_and1 (pt_cmpR op_eq (pv 5) pe_int (nomark _))))) (pss_one (ps_par3 (i := 6) (j := 7) (l := 8) rfl sc_law_triangle.nd rfl rfl rfl (by decide) (by decide) (by decide) rfl rfl rfl (pa_cons (pe_ix (x_tup K) (pe_ix (x_list K) (pv 3) pe_int (fun _ _ => rfl)) pe_int (fun _ _ => rfl)) (pa_cons (pe_ix (x_tup K) (pe_ix (x_list K) (pv 3) pe_int (fun _ _ => rfl)) pe_int (fun _ _ => rfl)) (pa_cons (pe_op o_add (pe_op o_add (pv 4) pe_int) (pe_callC (cal_law_draw (K := K) T) (hr.mono (by decide)) (by rfl) (pa_cons (pv 0) (pa_cons pe_int pa_nil)))) pa_nil))) (by rfl))) pss_nil)
      (pss_one (ps_expr (pe_bm PySem.F.plainAttrs_list PySem.F.slot_list_append PySem.F.type_list_append mt_append (pv 3) (pa_cons (pe_tup (pa_cons (pv 6) (pa_cons (pv 8) (pa_cons (pv 7) pa_nil)))) pa_nil)))))))))
      (pss_one (ps_ret (pe_callTy (c_tuple K) (by rfl) T.tuple b_tuple (pa_cons (pv 3) pa_nil)))))))), ?_⟩
    change (_ : TS) _ [some _, some _, none, none, none, none, none, none, none] H
    have ⟨⟨dx, h1, h2, sl, e1, e2⟩, mo⟩ := hse
    have mc := mo.cell
    have mr := mo.rows
    have mcl := mo.columns
    have mle := mo.level
    wtm_at "go"
    refine do_law_draw hst (by omega) fun i1 H1 d1 q1 => ?_
    wtm_at "go"
    rename_i P hP
    have sP : StAt (upd H1 P (.lst [])) r l := d1.st.same (same_new hP)
    refine do_law_draw sP (by omega) fun i2 H2 d2 q2 => ?_
    have hP2 : H2 P = some (.lst []) := Dr.new d1.st hP d2
    have e12 := (d1.add hP).trans d2
    have f2 := e12.f hst e1
    have nP := d1.st.nw hP
    wtm_at "go"
    have hb : 0 ≤ i2 * M.level ∧ i2 * M.level ≤ 60 := by
      have := mulb (c := M.level) (x := i2) (a := 0) (b := 12) (by omega) (by omega) (by omega)
      omega
    refine for_range (lo := 0) (n := 3) (fun j σ H' => (∃ y5 y6 y7 y8, σ = [some (.ref r), some (.ref s), some (.int i1), some (.ref P), some (.int (i2 * M.level)), y5, y6, y7, y8]) ∧ Dr r l H1 H' ∧ ∃ (ys : List V) (ps : List FpM.Pt), H' P = some (.lst ys) ∧ A2 (PtV H') ys ps ∧ ps.length = j ∧ ∀ p ∈ ps, SmP p)
      ⟨⟨_, _, _, _, rfl⟩, (Dr.add (Dr.refl d1.st) hP).trans d2, [], [], hP2, .nil, rfl, fun p h => absurd h (by simp)⟩ (fun j σ H3 hj h3 => ?_) (fun σ H3 h3 => ?_)
    · obtain ⟨⟨y5, y6, y7, y8, rfl⟩, d3, ys, ps, hP3, a3, lp, sm⟩ := h3
      have f3 := d3.f d1.st (d1.f hst e1)
      have ly := a3.length
      wtm_at "go"
      refine do_law_along d3.st mcl mc fun x Hx ex qx => ?_
      have fx := ex.f d3.st f3
      wtm_at "go"
      refine do_law_along ex.st (by omega) mc fun z Hz ez qz => ?_
      wtm_at "go"
      refine do_law_draw ez.st (by omega) fun i4 H4 d4 q4 => ?_
      wtm_at "go"
      refine do_law_draw d4.st (by omega) fun i5 H5 d5 q5 => ?_
      wtm_at "go"
      refine do_law_draw d5.st (by omega) fun i6 H6 d6 q6 => ?_
      have e36 := (((ex.trans ez).trans d4).trans d5).trans d6
      wtm_at "go"
      rename_i p hp
      refine i_ix5 upd_same q1 fun y hy => ?_
      have hyb : -900 ≤ y ∧ y ≤ 900 := by omega
      have e37 := e36.add (o := .lst [.int (i2 * M.level), .int (i2 * M.level + i4), .int (i5 - 10), .int (i2 * M.level), .int (i2 * M.level + i6)]) hp
      generalize upd H6 p (.lst [.int (i2 * M.level), .int (i2 * M.level + i4), .int (i5 - 10), .int (i2 * M.level), .int (i2 * M.level + i6)]) = H7 at e37
      have hP7 := e37.bt _ _ nP.1 nP.2 hP3
      have a7 : A2 (PtV H7) ys ps := a3.mono fun v o h => h.tt (e37.tk d3.st)
      wtm_at "go"
      refine i_cut (fun σ' H' => ∃ x' z' y' : Int, σ' = [some (.ref r), some (.ref s), some (.int i1), some (.ref P), some (.int (i2 * M.level)), some (.int (0 + (j : Int))), some (.int x'), some (.int z'), some (.int y')] ∧ Dr r l H1 H' ∧ H' P = some (.lst ys) ∧ A2 (PtV H') ys ps ∧ SmP ⟨x', y', z'⟩) ?_ ?_
      · have no : ∃ x' z' y' : Int, [some (V.ref r), some (.ref s), some (.int i1), some (.ref P), some (.int (i2 * M.level)), some (.int (0 + (j : Int))), some (.int x), some (.int z), some (.int y)] = [some (V.ref r), some (.ref s), some (.int i1), some (.ref P), some (.int (i2 * M.level)), some (.int (0 + (j : Int))), some (.int x'), some (.int z'), some (.int y')] ∧ Dr r l H1 H7 ∧ H7 P = some (.lst ys) ∧ A2 (PtV H7) ys ps ∧ SmP ⟨x', y', z'⟩ :=
          ⟨x, z, y, rfl, d3.trans e37, hP7, a7, by unfold SmP Sm; simp only; omega⟩
        wtm_at "go"
        · match ps, a7, lp, sm with
          | [], _, lp, _ => exfalso; simp at lp; omega
          | pt :: ps', .cons (a := v) ⟨a0, ev, t0⟩ arest, lp, sm =>
            subst ev
            have s0 := sm pt (by simp)
            refine i_par3 ?_
            wtm_at "go"
            refine do_law_draw e37.st (by omega) fun i8 H8 d8 q8 => ?_
            wtm_at "go"
            refine ⟨_, _, _, rfl, pt.x, pt.z, i2 * M.level + 1 + i8, rfl, (d3.trans e37).trans d8, d8.bt _ _ nP.1 nP.2 hP7, (A2.cons ⟨a0, rfl, t0⟩ arest).mono fun v o h => h.tt (d8.tk e37.st), s0.1, ?_, s0.2.2⟩
            show Sm (i2 * M.level + 1 + i8)
            unfold Sm
            omega
        all_goals exact no
      · rintro σ' H8 ⟨x', z', y', rfl, d8, hP8, a8, sm8⟩
        have ly8 := a8.length
        wtm_at "go"
        rename_i q hq
        have hP9 := upd_new (q := .tup [.int x', .int y', .int z']) hq hP8
        refine ⟨⟨_, _, _, _, rfl⟩, ?_, _, ps ++ [⟨x', y', z'⟩], upd_same, ?_, by simp; omega, fun p' hp' => ?_⟩
        · exact (d8.add hq).mut hP d1.st
        · exact (a8.mono fun v o h => h.tt ((Tk.new hq).trans (Tk.lst hP9))).snoc ⟨q, rfl, upd_tup hP9 upd_same⟩
        · rcases List.mem_append.mp hp' with h | h
          · exact sm p' h
          · rw [List.mem_singleton.mp h]; exact sm8
    · obtain ⟨⟨y5, y6, y7, y8, rfl⟩, d3, ys, ps, hP3, a3, lp, sm⟩ := h3
      match ps, lp, a3, sm with
      | [p1, p2, p3], _, .cons (b := _) (a := v1) ⟨a1, e1', t1⟩ (.cons ⟨a2, e2', t2⟩ (.cons ⟨a3', e3', t3⟩ .nil)), sm =>
        subst e1' e2' e3'
        wtm_at "go"
        refine i_tupleL hP3 fun q hq => ?_
        have s1 := sm p1 (by simp)
        have s2 := sm p2 (by simp)
        have s3 := sm p3 (by simp)
        exact k q ⟨p1, p2, p3⟩ _ ((d1.trans d3).add hq) ⟨a1, a2, a3', upd_same, upd_new hq t1, upd_new hq t2, upd_new hq t3⟩ ⟨s1.1, s1.2.1, s1.2.2, s2.1, s2.2.1, s2.2.2, s3.1, s3.2.1, s3.2.2⟩
end
section
theorem do_law_triangle {K : PySem.W.Frag} {H : Hp} {Q : VK} {r l s : Addr} {M : FpM.Me} {tl : Int} (hst : StAt H r l) (hse : SeAt K H s M tl) (k : ∀ (a : Addr) (R : FpM.Tr) H', Dr r l H H' → TriAt H' a R → TrSm R → Q (.ref a) H') : sp_law_triangle K [.ref r, .ref s] H Q E0 := ⟨r, l, s, M, tl, rfl, hst, hse, k⟩
end
section
def sp_law_boxes (K : PySem.W.Frag) : Sp := fun vs H Q _ => ∃ (r l s : Addr) (M : FpM.Me) (tl : Int), vs = [.ref r, .ref s] ∧ StAt H r l ∧ SeAt K H s M tl ∧
  ∀ (D : Addr) (ys : List V) (bs : List FpM.Bx) H', H D = none → Dr r l H H' → H' D = some (.lst ys) → A2 (BxV H') ys bs → bs.length ≤ 100 → (∀ b ∈ bs, BxOk b) → Q (.ref D) H'
theorem Dr.none {r l p : Addr} {H H' : Hp} (hst : StAt H r l) (d : Dr r l H H') (n : H' p = none) : H p = none := by
  cases e : H p with
  | none => rfl
  | some o =>
    obtain ⟨cs, m, h1, h2, _⟩ := d.st
    rw [d.bt p o (fun z => by rw [z, h1] at n; cases n) (fun z => by rw [z, h2] at n; cases n) e] at n
    cases n
abbrev s_law_boxes : Stmt := topS 62
abbrev N_law_boxes : List Str := ["_law_state_here", "_law_settings_here", "_law_k"]
theorem sc_law_boxes : FnScope N_law_boxes ["_law_state_here", "_law_settings_here"] (defScope s_law_boxes) := ⟨rfl, rfl, rfl, by decide +kernel, rfl, by decide +kernel, by decide +kernel⟩
theorem bd_law_boxes : BindsOf ["_law_state_here", "_law_settings_here"] "_law_boxes" "_law_boxes" s_law_boxes := fun _ _ _ _ _ _ us hl => match us, hl with | [_, _], _ => rfl
theorem cal_law_boxes {P : Program} {w : World} {K : PySem.W.Frag} {mg : Str → Option Value} {base : Heap} (T : Tx K mg) : Cal P w K mg base "_law_boxes" 4 ["_law_state_here", "_law_settings_here"] (sp_law_boxes K) := by
  refine T.law_boxes.cal sc_law_boxes bd_law_boxes (fun vs H Q E h => ?_) (fun f cdv A outer s H vs Q E hr h => ?_)
  · obtain ⟨r, l, s, M, tl, rfl, hst, hse, k⟩ := h; rfl
  · have hu := hu_of hr
    obtain ⟨r, l, s, M, tl, rfl, hst, hse, k⟩ := h
    refine ⟨_, (pss_one (ps_ret (pe_lc (own := [("_law_k", 2)]) rfl sc_law_boxes.nd (pi_range1 (by rfl) T.range (pa_cons (pe_callC (cal_law_draw (K := K) T) (hr.mono (by decide)) (by rfl) (pa_cons (pv 0) (pa_cons pe_int pa_nil))) pa_nil)) (blkOk_by (own := [("_law_k", 2)]) (N := N_law_boxes) (sc := defScope (topS 62)) (by decide +kernel)) (fun _ _ _ _ _ => (pg_name (i := 2) sc_law_boxes.nd rfl (.inl rfl))) (fun _ _ _ _ _ => pts_nil) (fun _ _ _ _ _ => (pe_callC (cal_law_box (K := K) T) (hr.mono (by decide)) (by rfl) (pa_cons (pv 0) (pa_cons (pv 1) pa_nil))))))), ?_⟩
    change (_ : TS) _ [some _, some _, none] H
    wtm_at "go"
    refine do_law_draw hst (by omega) fun i1 H1 d1 q1 => ?_
    wtm_at "go"
    intro D hD
    have nD := d1.st.nw hD
    refine lc_range (lo := 0) (n := i1.toNat) (fun i H' => Dr r l H1 H' ∧ ∃ (ys : List V) (bs : List FpM.Bx), H' D = some (.lst ys) ∧ A2 (BxV H') ys bs ∧ bs.length = i ∧ ∀ b ∈ bs, BxOk b) ⟨(Dr.refl d1.st).add hD, [], [], upd_same, .nil, rfl, fun b h => absurd h (by simp)⟩ (fun i H' hi h' => ?_) (fun H' h' => ?_)
    · obtain ⟨d2, ys, bs, hD2, a2, lb, ok⟩ := h'
      have ly := a2.length
      change gName 2 _ [some _, some _, none] _ _
      wtm_at "go"
      refine do_law_box d2.st (d2.se d1.st (d1.se hst hse)) fun a b H3 d3 hb okb => ?_
      have hD3 := d3.bt _ _ nD.1 nD.2 hD2
      refine ⟨ys, hD3, szt (by omega), (d2.trans d3).mut hD d1.st, _, bs ++ [b], upd_same, ?_, by simp; omega, fun b' hb' => ?_⟩
      · exact (a2.mono fun v o h => h.tt ((d3.tk d2.st).trans (Tk.lst hD3))).snoc ⟨a, rfl, upd_tup hD3 hb⟩
      · rcases List.mem_append.mp hb' with h | h
        · exact ok b' h
        · rw [List.mem_singleton.mp h]; exact okb
    · obtain ⟨d2, ys, bs, hD2, a2, lb, ok⟩ := h'
      exact k D ys bs _ (d1.none hst hD) (d1.trans d2) hD2 a2 (by omega) ok
theorem do_law_boxes {K : PySem.W.Frag} {H : Hp} {Q : VK} {r l s : Addr} {M : FpM.Me} {tl : Int} (hst : StAt H r l) (hse : SeAt K H s M tl)
    (k : ∀ (D : Addr) (ys : List V) (bs : List FpM.Bx) H', H D = none → Dr r l H H' → H' D = some (.lst ys) → A2 (BxV H') ys bs → bs.length ≤ 100 → (∀ b ∈ bs, BxOk b) → Q (.ref D) H') : sp_law_boxes K [.ref r, .ref s] H Q E0 := ⟨r, l, s, M, tl, rfl, hst, hse, k⟩
def sp_law_ground (K : PySem.W.Frag) : Sp := fun vs H Q _ => ∃ (r l s : Addr) (M : FpM.Me) (tl : Int), vs = [.ref r, .ref s] ∧ StAt H r l ∧ SeAt K H s M tl ∧
  ∀ (D : Addr) (ys : List V) (rs : List FpM.Tr) H', H D = none → Dr r l H H' → H' D = some (.lst ys) → A2 (TriV H') ys rs → rs.length ≤ 2 → (∀ R ∈ rs, TrSm R) → Q (.ref D) H'
abbrev s_law_ground : Stmt := topS 59
abbrev N_law_ground : List Str := ["_law_state_here", "_law_settings_here", "_law_wide", "_law_deep", "_law_y", "_law_up", "_law_one"]
theorem sc_law_ground : FnScope N_law_ground ["_law_state_here", "_law_settings_here"] (defScope s_law_ground) := ⟨rfl, rfl, rfl, by decide +kernel, rfl, by decide +kernel, by decide +kernel⟩
theorem bd_law_ground : BindsOf ["_law_state_here", "_law_settings_here"] "_law_ground" "_law_ground" s_law_ground := fun _ _ _ _ _ _ us hl => match us, hl with | [_, _], _ => rfl
theorem cal_law_ground {P : Program} {w : World} {K : PySem.W.Frag} {mg : Str → Option Value} {base : Heap} (T : Tx K mg) : Cal P w K mg base "_law_ground" 2 ["_law_state_here", "_law_settings_here"] (sp_law_ground K) := by
  refine T.law_ground.cal sc_law_ground bd_law_ground (fun vs H Q E h => ?_) (fun f cdv A outer s H vs Q E hr h => ?_)
  · obtain ⟨r, l, s, M, tl, rfl, hst, hse, k⟩ := h; rfl
  · have hu := hu_of hr
    obtain ⟨r, l, s, M, tl, rfl, hst, hse, k⟩ := h
    refine ⟨_, (pss_cons (ps_set (i := 2) sc_law_ground.nd rfl (.inl rfl) (pe_op o_mul (pe_op o_add (pe_fld (pv 1) rfl) pe_int) (pe_fld (pv 1) rfl)))
      (pss_cons (ps_set (i := 3) sc_law_ground.nd rfl (.inl rfl) (pe_op o_mul (pe_op o_add (pe_fld (pv 1) rfl) pe_int) (pe_fld (pv 1) rfl)))
      (pss_cons (ps_set (i := 4) sc_law_ground.nd rfl (.inl rfl) (pe_op o_mul (pe_callC (cal_law_draw (K := K) T) (hr.mono (by decide)) (by rfl) (pa_cons (pv 0) (pa_cons pe_int pa_nil))) (pe_fld (pv 1) rfl)))
      (pss_cons (ps_set (i := 5) sc_law_ground.nd rfl (.inl rfl) (pe_ix (x_list K) (pe_lst (pa_cons pe_int (pa_cons pe_int (pa_cons (pe_callC (cal_law_draw (K := K) T) (hr.mono (by decide)) (by rfl) (pa_cons (pv 0) (pa_cons pe_int pa_nil))) pa_nil)))) (pe_callC (cal_law_draw (K := K) T) (hr.mono (by decide)) (by rfl) (pa_cons (pv 0) (pa_cons pe_int pa_nil))) (fun _ _ => rfl)))
      (pss_cons (ps_set (i := 6) sc_law_ground.nd rfl (.inl rfl) (pe_tup (pa_cons (pe_tup (pa_cons (pe_un u_neg (pe_fld (pv 1) rfl)) (pa_cons (pv 4) (pa_cons (pe_un u_neg (pe_fld (pv 1) rfl)) pa_nil)))) (pa_cons (pe_tup (pa_cons (pv 2) (pa_cons (pe_op o_add (pv 4) (pv 5)) (pa_cons (pe_un u_neg (pe_fld (pv 1) rfl)) pa_nil)))) (pa_cons (pe_tup (pa_cons (pe_un u_neg (pe_fld (pv 1) rfl)) (pa_cons (pv 4) (pa_cons (pv 3) pa_nil)))) pa_nil)))))
      (pss_one (ps_ret (pe_lst (pa_cons (pv 6) (pa_cons (pe_tup (pa_cons (pe_tup (pa_cons (pv 2) (pa_cons (pe_op o_add (pv 4) (pv 5)) (pa_cons (pe_un u_neg (pe_fld (pv 1) rfl)) pa_nil)))) (pa_cons (pe_tup (pa_cons (pv 2) (pa_cons (pe_op o_add (pv 4) (pv 5)) (pa_cons (pv 3) pa_nil)))) (pa_cons (pe_tup (pa_cons (pe_un u_neg (pe_fld (pv 1) rfl)) (pa_cons (pv 4) (pa_cons (pv 3) pa_nil)))) pa_nil)))) pa_nil)))))))))), ?_⟩
    change (_ : TS) _ [some _, some _, none, none, none, none, none] H
    have ⟨⟨dx, h1, h2, sl, e1, e2⟩, mo⟩ := hse
    have mc := mo.cell
    have mr := mo.rows
    have mcl := mo.columns
    have mle := mo.level
    have b1 := mulb (c := M.cell) (x := M.columns + 1) (a := 0) (b := 7) (by omega) (by omega) (by omega)
    have b2 := mulb (c := M.cell) (x := M.rows + 1) (a := 0) (b := 5) (by omega) (by omega) (by omega)
    wtm_at "go"
    refine do_law_draw hst (by omega) fun i1 H1 d1 q1 => ?_
    have f1 := d1.f hst e1
    have b3 := mulb (c := M.level) (x := i1) (a := 0) (b := 6) (by omega) (by omega) (by omega)
    wtm_at "go"
    refine do_law_draw d1.st (by omega) fun i2 H2 d2 q2 => ?_
    wtm_at "go"
    rename_i p3 hp3
    refine do_law_draw (d2.st.same (same_new hp3)) (by omega) fun i3 H3 d3 q3 => ?_
    refine i_ix3 (Dr.new d2.st hp3 d3) q3 fun up hup => ?_
    have e3 := ((d1.trans d2).add hp3).trans d3
    have f3 := e3.f hst e1
    wtm_at "go"
    rename_i pa ha pb hb pc hc po ho pd hd pe he pf hf pg hg pl hl
    have sm : -1000 ≤ i1 * M.level ∧ i1 * M.level ≤ 1000 ∧ -1000 ≤ i1 * M.level + up ∧ i1 * M.level + up ≤ 1000 := by
      rcases hup with rfl | rfl | rfl <;> omega
    have sH : Same H3 (upd (upd (upd (upd (upd (upd (upd (upd (upd H3 pa (.tup [.int (-M.cell), .int (i1 * M.level), .int (-M.cell)])) pb (.tup [.int ((M.columns + 1) * M.cell), .int (i1 * M.level + up), .int (-M.cell)])) pc (.tup [.int (-M.cell), .int (i1 * M.level), .int ((M.rows + 1) * M.cell)])) po (.tup [.ref pa, .ref pb, .ref pc]))
        pd (.tup [.int ((M.columns + 1) * M.cell), .int (i1 * M.level + up), .int (-M.cell)])) pe (.tup [.int ((M.columns + 1) * M.cell), .int (i1 * M.level + up), .int ((M.rows + 1) * M.cell)])) pf (.tup [.int (-M.cell), .int (i1 * M.level), .int ((M.rows + 1) * M.cell)])) pg (.tup [.ref pd, .ref pe, .ref pf])) pl (.lst [.ref po, .ref pg])) := by wtm_at "sm"
    refine k pl [.ref po, .ref pg] [⟨⟨-M.cell, i1 * M.level, -M.cell⟩, ⟨(M.columns + 1) * M.cell, i1 * M.level + up, -M.cell⟩, ⟨-M.cell, i1 * M.level, (M.rows + 1) * M.cell⟩⟩,
      ⟨⟨(M.columns + 1) * M.cell, i1 * M.level + up, -M.cell⟩, ⟨(M.columns + 1) * M.cell, i1 * M.level + up, (M.rows + 1) * M.cell⟩, ⟨-M.cell, i1 * M.level, (M.rows + 1) * M.cell⟩⟩] _ ?_ (e3.trans (Dr.same e3.st sH)) upd_same ?_ (by simp) ?_
    · refine e3.none hst ?_
      refine none_of ?_ hl
      wtm_at "sm"
    · refine .cons ⟨po, rfl, pa, pb, pc, by wtm_at "hp", by wtm_at "hp", by wtm_at "hp", by wtm_at "hp"⟩ (.cons ⟨pg, rfl, pd, pe, pf, by wtm_at "hp", by wtm_at "hp", by wtm_at "hp", by wtm_at "hp"⟩ .nil)
    · intro R hR
      rcases List.mem_cons.mp hR with rfl | hR
      · constructor <;> (unfold Sm; simp only; omega)
      · rw [List.mem_singleton.mp hR]
        constructor <;> (unfold Sm; simp only; omega)
theorem do_law_ground {K : PySem.W.Frag} {H : Hp} {Q : VK} {r l s : Addr} {M : FpM.Me} {tl : Int} (hst : StAt H r l) (hse : SeAt K H s M tl)
    (k : ∀ (D : Addr) (ys : List V) (rs : List FpM.Tr) H', H D = none → Dr r l H H' → H' D = some (.lst ys) → A2 (TriV H') ys rs → rs.length ≤ 2 → (∀ R ∈ rs, TrSm R) → Q (.ref D) H') : sp_law_ground K [.ref r, .ref s] H Q E0 := ⟨r, l, s, M, tl, rfl, hst, hse, k⟩
end
section
def SoupAt (r l s : Addr) (c : Nat) (H H' : Hp) (D : Addr) : Prop := H D = none ∧ Dr r l H H' ∧ ∃ (ys : List V) (rs : List FpM.Tr), H' D = some (.lst ys) ∧ A2 (TriV H') ys rs ∧ rs.length ≤ c ∧ ∀ R ∈ rs, TrSm R
theorem SoupAt.dr {r l s : Addr} {c : Nat} {H H' H2 : Hp} {D : Addr} (h : SoupAt r l s c H H' D) (hst : StAt H r l) (d : Dr r l H' H2) : SoupAt r l s c H H2 D := by
  obtain ⟨n, d1, ys, rs, h1, h2, h3⟩ := h
  have nn := hst.nw n
  exact ⟨n, d1.trans d, ys, rs, d.bt _ _ nn.1 nn.2 h1, h2.mono fun v o h => h.tt (d.tk d1.st), h3⟩
def sp_law_soup (K : PySem.W.Frag) : Sp := fun vs H Q _ => ∃ (r l s : Addr) (M : FpM.Me) (tl : Int), vs = [.ref r, .ref s] ∧ StAt H r l ∧ SeAt K H s M tl ∧ ∀ (D : Addr) H', SoupAt r l s 100 H H' D → Q (.ref D) H'
abbrev s_law_soup : Stmt := topS 60
abbrev N_law_soup : List Str := ["_law_state_here", "_law_settings_here", "_law_soup_here", "_law_k"]
theorem sc_law_soup : FnScope N_law_soup ["_law_state_here", "_law_settings_here"] (defScope s_law_soup) := ⟨rfl, rfl, rfl, by decide +kernel, rfl, by decide +kernel, by decide +kernel⟩
theorem bd_law_soup : BindsOf ["_law_state_here", "_law_settings_here"] "_law_soup" "_law_soup" s_law_soup := fun _ _ _ _ _ _ us hl => match us, hl with | [_, _], _ => rfl
theorem cal_law_soup {P : Program} {w : World} {K : PySem.W.Frag} {mg : Str → Option Value} {base : Heap} (T : Tx K mg) : Cal P w K mg base "_law_soup" 4 ["_law_state_here", "_law_settings_here"] (sp_law_soup K) := by
  refine T.law_soup.cal sc_law_soup bd_law_soup (fun vs H Q E h => ?_) (fun f cdv A outer s H vs Q E hr h => ?_)
  · obtain ⟨r, l, s, M, tl, rfl, hst, hse, k⟩ := h; rfl
  · have hu := hu_of hr
    obtain ⟨r, l, s, M, tl, rfl, hst, hse, k⟩ := h
    refine ⟨_, (pss_cons (ps_set (i := 2) sc_law_soup.nd rfl (.inl rfl) (pe_lst pa_nil))
      (Evl.pss_cut (ps_if (pt_cmpR op_gt1 (pe_callC (cal_law_draw (K := K) T) (hr.mono (by decide)) (by rfl) (pa_cons (pv 0) (pa_cons pe_int pa_nil))) pe_int (nomark _)) (pss_one (ps_set (i := 2) sc_law_soup.nd rfl (.inl rfl) (pe_callC (cal_law_ground (K := K) T) (hr.mono (by decide)) (by rfl) (pa_cons (pv 0) (pa_cons (pv 1) pa_nil))))) pss_nil)
      (Evl.pss_cut (ps_if (pt_cmpR op_eq (pe_callC (cal_law_draw (K := K) T) (hr.mono (by decide)) (by rfl) (pa_cons (pv 0) (pa_cons pe_int pa_nil))) pe_int (nomark _)) (pss_one (ps_set (i := 2) sc_law_soup.nd rfl (.inl rfl) (pe_op op_cat (pv 2) (pe_callC (cal_law_ground (K := K) T) (hr.mono (by decide)) (by rfl) (pa_cons (pv 0) (pa_cons (pv 1) pa_nil)))))) pss_nil)
      (pss_cons (ps_for PassesOwn.never rfl (pi_range1 (by rfl) T.range (pa_cons (pe_callC (cal_law_draw (K := K) T) (hr.mono (by decide)) (by rfl) (pa_cons (pv 0) (pa_cons pe_int pa_nil))) pa_nil)) (pg_name (i := 3) sc_law_soup.nd rfl (.inl rfl)) (pss_one (ps_expr (pe_bm PySem.F.plainAttrs_list PySem.F.slot_list_append PySem.F.type_list_append mt_append (pv 2) (pa_cons (pe_callC (cal_law_triangle (K := K) T) (hr.mono (by decide)) (by rfl) (pa_cons (pv 0) (pa_cons (pv 1) pa_nil))) pa_nil)))))
      (pss_one (ps_ret (pv 2))))))), ?_⟩
    change (_ : TS) _ [some _, some _, none, none] H
    wtm_at "go"
    rename_i D0 hD0
    refine i_cut (fun σ' H' => ∃ D, σ' = [some (.ref r), some (.ref s), some (.ref D), none] ∧ SoupAt r l s 2 H H' D) ?_ ?_
    · wtm_at "go"
      have st0 := hst.same (same_new (q := .lst []) hD0)
      refine do_law_draw st0 (by omega) fun i1 H1 d1 q1 => ?_
      have e1 := ((Dr.refl hst).add hD0).trans d1
      wtm_at "go"
      · refine do_law_ground d1.st (e1.se hst hse) fun D ys rs H2 nD d2 hD2 a2 l2 sm => ?_
        wtm_at "go"
        exact ⟨D, rfl, e1.none hst nD, e1.trans d2, ys, rs, hD2, a2, by omega, sm⟩
      · exact ⟨D0, rfl, hD0, e1, [], [], Dr.new hst hD0 d1, .nil, by simp, fun R h => absurd h (by simp)⟩
    · rintro σ' H1 ⟨D1, rfl, so1⟩
      wtm_at "go"
      refine i_cut (fun σ' H' => ∃ D, σ' = [some (.ref r), some (.ref s), some (.ref D), none] ∧ SoupAt r l s 4 H H' D) ?_ ?_
      · wtm_at "go"
        refine do_law_draw so1.2.1.st (by omega) fun i2 H2 d2 q2 => ?_
        have so2 := so1.dr hst d2
        wtm_at "go"
        · refine do_law_ground so2.2.1.st (so2.2.1.se hst hse) fun D3 ys3 rs3 H3 nD3 d3 hD3 a3 l3 sm3 => ?_
          obtain ⟨n3, e3, ys, rs, h1, h2, h3, h4⟩ := so2.dr hst d3
          have ly := h2.length
          have ly3 := a3.length
          refine i_cat h1 hD3 (Nat.le_of_lt (szt (by omega))) fun p hp => ?_
          wtm_at "go"
          refine ⟨p, rfl, e3.none hst hp, e3.add hp, ys ++ ys3, rs ++ rs3, upd_same, (h2.append a3).mono fun v o h => h.tt (Tk.new hp), by simp; omega, fun R hR => ?_⟩
          rcases List.mem_append.mp hR with h | h
          · exact h4 R h
          · exact sm3 R h
        · obtain ⟨n3, e3, ys, rs, h1, h2, h3, h4⟩ := so2
          exact ⟨D1, rfl, n3, e3, ys, rs, h1, h2, by omega, h4⟩
      · rintro σ' H2 ⟨D, rfl, so2⟩
        wtm_at "go"
        refine do_law_draw so2.2.1.st (by omega) fun i3 H3 d3 q3 => ?_
        have so3 := so2.dr hst d3
        wtm_at "go"
        refine for_range (fun j σ H' => (∃ y3, σ = [some (.ref r), some (.ref s), some (.ref D), y3]) ∧ SoupAt r l s (4 + j) H H' D) ⟨⟨_, rfl⟩, so3⟩ (fun j σ H4 hj h4 => ?_) (fun σ H4 h4 => ?_)
        · obtain ⟨⟨y3, rfl⟩, so4⟩ := h4
          have hj6 : j < 6 := by omega
          obtain ⟨n4, e4, ys4, rs4, g1, g2, g3, g4⟩ := id so4
          wtm_at "go"
          refine do_law_triangle so4.2.1.st (so4.2.1.se hst hse) fun a R H5 d5 ht5 sm5 => ?_
          obtain ⟨n5, e5, ys, rs, h1, h2, h3, h4⟩ := so4.dr hst d5
          have ly := h2.length
          have ly2 : ys.length ≤ 1000 := by omega
          wtm_at "go"
          refine ⟨⟨_, rfl⟩, n5, e5.mut n5 hst, _, rs ++ [R], upd_same, ?_, by simp; omega, fun R' hR => ?_⟩
          · exact (h2.mono fun v o h => h.tt (Tk.lst h1)).snoc ⟨a, rfl, ht5.tt (Tk.lst h1)⟩
          · rcases List.mem_append.mp hR with h | h
            · exact h4 R' h
            · rw [List.mem_singleton.mp h]; exact sm5
        · obtain ⟨⟨y3, rfl⟩, n5, e5, ys, rs, h1, h2, h3, h4⟩ := h4
          wtm_at "go"
          exact k D _ ⟨n5, e5, ys, rs, h1, h2, by omega, h4⟩
theorem do_law_soup {K : PySem.W.Frag} {H : Hp} {Q : VK} {r l s : Addr} {M : FpM.Me} {tl : Int} (hst : StAt H r l) (hse : SeAt K H s M tl) (k : ∀ (D : Addr) H', SoupAt r l s 100 H H' D → Q (.ref D) H') : sp_law_soup K [.ref r, .ref s] H Q E0 := ⟨r, l, s, M, tl, rfl, hst, hse, k⟩
end
section
/-! ### clipping -/
def V4At (H : Hp) (a : Addr) (v : FpM.V4) : Prop := H a = some (.tup [.int v.x, .int v.y, .int v.z, .int v.w])
def V4V (H : Hp) (u : V) (v : FpM.V4) : Prop := ∃ a, u = .ref a ∧ V4At H a v
theorem V4V.tt {H H' : Hp} {u : V} {v : FpM.V4} (h : V4V H u v) (t : Tk H H') : V4V H' u v := by
  obtain ⟨a, rfl, e⟩ := h
  exact ⟨a, rfl, t _ _ e⟩
/-- in m bits -/
def Bt_ (m : Nat) (i : Int) : Prop := i.natAbs < 2 ^ m
def B4 (m : Nat) (v : FpM.V4) : Prop := Bt_ m v.x ∧ Bt_ m v.y ∧ Bt_ m v.z ∧ Bt_ m v.w
theorem Bt_.log {m : Nat} {i : Int} (h : Bt_ m i) : i.natAbs.log2 ≤ m := by
  unfold Bt_ at h
  rcases Nat.eq_zero_or_pos i.natAbs with z | z
  · rw [z]; simp
  · exact Nat.le_of_lt ((Nat.log2_lt (by omega)).mpr h)
theorem Bt_.wide {m n : Nat} {i j : Int} (h : Bt_ m i) (k : Bt_ n j) (b : m + n < 1000000) : CMulW i j := by
  unfold CMulW
  have := h.log
  have := k.log
  omega
theorem Bt_.mono {m n : Nat} {i : Int} (h : Bt_ m i) (k : m ≤ n) : Bt_ n i := Nat.lt_of_lt_of_le h (Nat.pow_le_pow_right (by decide) k)
theorem Bt_.mul {m n : Nat} {i j : Int} (h : Bt_ m i) (k : Bt_ n j) : Bt_ (m + n) (i * j) := by
  unfold Bt_ at *
  rw [Int.natAbs_mul, Nat.pow_add]
  exact Nat.mul_lt_mul'' h k
theorem Bt_.add {m : Nat} {i j : Int} (h : Bt_ m i) (k : Bt_ m j) : Bt_ (m + 1) (i + j) := by
  unfold Bt_ at *
  rw [Nat.pow_succ]
  have := Int.natAbs_add_le i j
  omega
theorem Bt_.neg {m : Nat} {i : Int} (h : Bt_ m i) : Bt_ m (-i) := by
  unfold Bt_ at *
  rw [Int.natAbs_neg]; exact h
theorem Bt_.abs {m : Nat} {i : Int} (h : Bt_ m i) : Bt_ m (FpM.absI i) := by
  unfold FpM.absI
  split
  · exact h.neg
  · exact h
theorem ax4_bt {m ax : Nat} {v : FpM.V4} (h : B4 m v) : Bt_ m (FpM.ax4 ax v) := by
  match ax with
  | 0 => exact h.1
  | 1 => exact h.2.1
  | n + 2 => exact h.2.2.1
theorem on_bt {m ax : Nat} {sign at_ : Int} {v : FpM.V4} (h : B4 m v) (hs : sign = 1 ∨ sign = -1) (ha : Bt_ 10 at_) : Bt_ (m + 11) ((FpM.axL ax sign at_).on v) := by
  rw [FpM.on_axL]
  have b1 : Bt_ (10 + m) (at_ * v.w) := ha.mul h.2.2.2
  have b2 : Bt_ (m + 11) (FpM.ax4 ax v - at_ * v.w) := by
    have := Bt_.add ((ax4_bt (ax := ax) h).mono (show m ≤ 10 + m by omega)) b1.neg
    rw [← Int.sub_eq_add_neg] at this
    exact this.mono (by omega)
  rcases hs with rfl | rfl
  · rw [Int.one_mul]; exact b2
  · rw [Int.neg_mul, Int.one_mul]; exact b2.neg
theorem cut_bt {m ax : Nat} {sign at_ : Int} {u v : FpM.V4} (hu : B4 m u) (hv : B4 m v) (hs : sign = 1 ∨ sign = -1) (ha : Bt_ 10 at_) : B4 (2 * m + 12) (FpM.cutG (FpM.axL ax sign at_) u v) := by
  have bu := (on_bt (ax := ax) hu hs ha).abs
  have bv := (on_bt (ax := ax) hv hs ha).abs
  have go : ∀ i j : Int, Bt_ m i → Bt_ m j → Bt_ (2 * m + 12) (i * FpM.absI ((FpM.axL ax sign at_).on v) + j * FpM.absI ((FpM.axL ax sign at_).on u)) := fun i j hi hj =>
    (Bt_.add (hi.mul bv) (hj.mul bu)).mono (by omega)
  exact ⟨go _ _ hu.1 hv.1, go _ _ hu.2.1 hv.2.1, go _ _ hu.2.2.1 hv.2.2.1, go _ _ hu.2.2.2 hv.2.2.2⟩
theorem at_ax {ax : Nat} (v : FpM.V4) (h : ax < 3) : atI [V.int v.x, .int v.y, .int v.z, .int v.w] (ax : Int) = some (.int (FpM.ax4 ax v)) := by
  match ax, h with
  | 0, _ => exact at0
  | 1, _ => exact at1
  | 2, _ => exact at2
end
section
def sp_law_beyond (_ : PySem.W.Frag) : Sp := fun vs H Q _ => ∃ (p : Addr) (v : FpM.V4) (ax : Nat) (sign at_ : Int), vs = [.ref p, .int ax, .int sign, .int at_] ∧ V4At H p v ∧ ax < 3 ∧ (sign = 1 ∨ sign = -1) ∧ Bt_ 10 at_ ∧ ∀ H', Same H H' → Q (.int ((FpM.axL ax sign at_).on v)) H'
theorem bt10 {i : Int} (h : Bt_ 10 i) : -1024 < i ∧ i < 1024 := by
  unfold Bt_ at h
  omega
abbrev s_law_beyond : Stmt := topS 63
abbrev N_law_beyond : List Str := ["_law_point", "_law_axis", "_law_sign", "_law_at"]
theorem sc_law_beyond : FnScope N_law_beyond ["_law_point", "_law_axis", "_law_sign", "_law_at"] (defScope s_law_beyond) := ⟨rfl, rfl, rfl, by decide +kernel, rfl, by decide +kernel, by decide +kernel⟩
theorem bd_law_beyond : BindsOf ["_law_point", "_law_axis", "_law_sign", "_law_at"] "_law_beyond" "_law_beyond" s_law_beyond := fun _ _ _ _ _ _ us hl => match us, hl with | [_, _, _, _], _ => rfl
theorem cal_law_beyond {P : Program} {w : World} {K : PySem.W.Frag} {mg : Str → Option Value} {base : Heap} (T : Tx K mg) : Cal P w K mg base "_law_beyond" 1 ["_law_point", "_law_axis", "_law_sign", "_law_at"] (sp_law_beyond K) := by
  refine T.law_beyond.cal sc_law_beyond bd_law_beyond (fun vs H Q E h => ?_) (fun f cdv A outer s H vs Q E hr h => ?_)
  · obtain ⟨p, v, ax, sign, at_, rfl, hp, hax, hs, ha, k⟩ := h; rfl
  · have hu := hu_of hr
    obtain ⟨p, v, ax, sign, at_, rfl, hp, hax, hs, ha, k⟩ := h
    refine ⟨_, (pss_one (ps_ret (pe_op o_mul (pv 2) (pe_op o_sub (pe_ix (x_tup K) (pv 0) (pv 1) (fun _ _ => rfl)) (pe_op o_mul (pv 3) (pe_ix (x_tup K) (pv 0) pe_int (fun _ _ => rfl))))))), ?_⟩
    change (_ : TS) _ [some _, some _, some _, some _] H
    have hb := bt10 ha
    have hx := at_ax v hax
    unfold V4At at hp
    have hk := k _ (Same.refl _)
    rw [FpM.on_axL] at hk
    wtm_at "go"
    exact hk
theorem do_law_beyond {K : PySem.W.Frag} {H : Hp} {Q : VK} {p : Addr} {v : FpM.V4} {ax : Nat} {sign at_ : Int} (hp : V4At H p v) (hax : ax < 3) (hs : sign = 1 ∨ sign = -1) (ha : Bt_ 10 at_) (k : ∀ H', Same H H' → Q (.int ((FpM.axL ax sign at_).on v)) H') : sp_law_beyond K [.ref p, .int ax, .int sign, .int at_] H Q E0 := ⟨p, v, ax, sign, at_, rfl, hp, hax, hs, ha, k⟩
def crd (v : FpM.V4) (i : Nat) : Int := match i with
  | 0 => v.x
  | 1 => v.y
  | 2 => v.z
  | _ => v.w
theorem crd_bt {m i : Nat} {v : FpM.V4} (h : B4 m v) : Bt_ m (crd v i) := by
  match i with
  | 0 => exact h.1
  | 1 => exact h.2.1
  | 2 => exact h.2.2.1
  | n + 3 => exact h.2.2.2
theorem at_crd {i : Nat} (v : FpM.V4) (h : i < 4) : atI [V.int v.x, .int v.y, .int v.z, .int v.w] (0 + (i : Int)) = some (.int (crd v i)) := by
  match i, h with
  | 0, _ => exact at0
  | 1, _ => exact at1
  | 2, _ => exact at2
  | 3, _ => exact at3
theorem four_of {zs : List V} {f : Nat → V} (hl : zs.length = 4) (he : ∀ (i : Nat) y, zs[i]? = some y → y = f i) : zs = [f 0, f 1, f 2, f 3] := by
  match zs, hl with
  | [a, b, c, d], _ => rw [he 0 a rfl, he 1 b rfl, he 2 c rfl, he 3 d rfl]
def sp_law_cut (_ : PySem.W.Frag) : Sp := fun vs H Q _ => ∃ (p q : Addr) (u v : FpM.V4) (m ax : Nat) (sign at_ : Int), vs = [.ref p, .ref q, .int ax, .int sign, .int at_] ∧ V4At H p u ∧ V4At H q v ∧ B4 m u ∧ B4 m v ∧ m ≤ 2000 ∧ ax < 3 ∧ (sign = 1 ∨ sign = -1) ∧ Bt_ 10 at_ ∧
  ∀ (a : Addr) H', Same H H' → V4At H' a (FpM.cutG (FpM.axL ax sign at_) u v) → Q (.ref a) H'
abbrev s_law_cut : Stmt := topS 64
abbrev N_law_cut : List Str := ["_law_one", "_law_other", "_law_axis", "_law_sign", "_law_at", "_law_a", "_law_b", "_law_k"]
theorem sc_law_cut : FnScope N_law_cut ["_law_one", "_law_other", "_law_axis", "_law_sign", "_law_at"] (defScope s_law_cut) := ⟨rfl, rfl, rfl, by decide +kernel, rfl, by decide +kernel, by decide +kernel⟩
theorem bd_law_cut : BindsOf ["_law_one", "_law_other", "_law_axis", "_law_sign", "_law_at"] "_law_cut" "_law_cut" s_law_cut := fun _ _ _ _ _ _ us hl => match us, hl with | [_, _, _, _, _], _ => rfl
theorem cal_law_cut {P : Program} {w : World} {K : PySem.W.Frag} {mg : Str → Option Value} {base : Heap} (T : Tx K mg) : Cal P w K mg base "_law_cut" 2 ["_law_one", "_law_other", "_law_axis", "_law_sign", "_law_at"] (sp_law_cut K) := by
  refine T.law_cut.cal sc_law_cut bd_law_cut (fun vs H Q E h => ?_) (fun f cdv A outer s H vs Q E hr h => ?_)
  · obtain ⟨p, q, u, v, m, ax, sign, at_, rfl, hp, hq, bu, bv, hm, hax, hs, ha, k⟩ := h; rfl
  · have hu := hu_of hr
    obtain ⟨p, q, u, v, m, ax, sign, at_, rfl, hp, hq, bu, bv, hm, hax, hs, ha, k⟩ := h
    refine ⟨_, (pss_cons (ps_set (i := 5) sc_law_cut.nd rfl (.inr rfl) (pe_callB c_abs (by rfl) T.abs b_abs (pa_cons (pe_callC (cal_law_beyond (K := K) T) (hr.mono (by decide)) (by rfl) (pa_cons (pv 0) (pa_cons (pv 2) (pa_cons (pv 3) (pa_cons (pv 4) pa_nil))))) pa_nil)))
      (pss_cons (ps_set (i := 6) sc_law_cut.nd rfl (.inr rfl) (pe_callB c_abs (by rfl) T.abs b_abs (pa_cons (pe_callC (cal_law_beyond (K := K) T) (hr.mono (by decide)) (by rfl) (pa_cons (pv 1) (pa_cons (pv 2) (pa_cons (pv 3) (pa_cons (pv 4) pa_nil))))) pa_nil)))
      (pss_one (ps_ret (pe_callTy (c_tuple K) (by rfl) T.tuple b_tuple (pa_cons (pe_lc (own := [("_law_k", 7)]) rfl sc_law_cut.nd (pi_range1 (by rfl) T.range (pa_cons pe_int pa_nil)) (blkOk_by (own := [("_law_k", 7)]) (N := N_law_cut) (sc := defScope (topS 64)) (by decide +kernel)) (fun _ _ _ _ _ => (pg_name (i := 7) sc_law_cut.nd rfl (.inl rfl))) (fun _ _ _ _ _ => pts_nil) (fun _ _ _ _ _ => (pe_op o_add (pe_op o_mulW (pe_ix (x_tup K) (pv 0) (pv 7) (fun _ _ => rfl)) (pv 6)) (pe_op o_mulW (pe_ix (x_tup K) (pv 1) (pv 7) (fun _ _ => rfl)) (pv 5))))) pa_nil)))))), ?_⟩
    change (_ : TS) _ [some _, some _, some _, some _, some _, none, none, none] H
    have ou := (on_bt (ax := ax) bu hs ha).abs
    have ov := (on_bt (ax := ax) bv hs ha).abs
    wtm_at "go"
    refine do_law_beyond hp hax hs ha fun H1 s1 => ?_
    wtm_at "go"
    refine do_law_beyond (s1 _ _ hq) hax hs ha fun H2 s2 => ?_
    wtm_at "go"
    have hp2 := s2 _ _ (s1 _ _ hp)
    have hq2 := s2 _ _ (s1 _ _ hq)
    intro D hD
    refine lc_mapR (lo := 0) (n := 4) hD (szt (by omega)) (fun i y _ => y = V.int (crd u i * FpM.absI ((FpM.axL ax sign at_).on v) + crd v i * FpM.absI ((FpM.axL ax sign at_).on u))) (fun _ _ _ _ h _ => h) (fun i H4 C G hi s4 acc kC => ?_) (fun zs H4 s4 hz hzl he => ?_)
    · change gName 7 _ [some _, some _, some _, some _, some _, some _, some _, none] _ _
      have hp4 : H4 p = some (.tup [.int u.x, .int u.y, .int u.z, .int u.w]) := s4 _ _ hp2
      have hq4 : H4 q = some (.tup [.int v.x, .int v.y, .int v.z, .int v.w]) := s4 _ _ hq2
      have x1 := at_crd u hi
      have x2 := at_crd v hi
      wtm_at "go"
      refine i_mulW ((crd_bt bu).wide ov (by omega)) ?_
      wtm_at "go"
      refine i_mulW ((crd_bt bv).wide ou (by omega)) ?_
      wtm_at "go"
      exact kC _ _ (Same.refl _) rfl
    · have e := four_of (f := fun i => V.int (crd u i * FpM.absI ((FpM.axL ax sign at_).on v) + crd v i * FpM.absI ((FpM.axL ax sign at_).on u))) hzl he
      wtm_at "go"
      refine i_tupleL hz fun a ha' => ?_
      refine k a _ ((s1.trans (s2.trans s4)).trans (same_new ha')) ?_
      unfold V4At
      rw [upd_same, e]
      rfl
theorem do_law_cut {K : PySem.W.Frag} {H : Hp} {Q : VK} {p q : Addr} {u v : FpM.V4} {m ax : Nat} {sign at_ : Int} (hp : V4At H p u) (hq : V4At H q v) (bu : B4 m u) (bv : B4 m v) (hm : m ≤ 2000) (hax : ax < 3) (hs : sign = 1 ∨ sign = -1) (ha : Bt_ 10 at_)
    (k : ∀ (a : Addr) H', Same H H' → V4At H' a (FpM.cutG (FpM.axL ax sign at_) u v) → Q (.ref a) H') : sp_law_cut K [.ref p, .ref q, .int ax, .int sign, .int at_] H Q E0 := ⟨p, q, u, v, m, ax, sign, at_, rfl, hp, hq, bu, bv, hm, hax, hs, ha, k⟩
end
section
def pairsOf (s : List FpM.V4) : List (FpM.V4 × FpM.V4) := match s.getLast? with
  | none => []
  | some l => FpM.pairs l s
theorem clipM_eq (g : FpM.Lf) (s : List FpM.V4) : FpM.clipM g s = FpM.clipP g (pairsOf s) := by
  unfold FpM.clipM pairsOf
  cases s.getLast? <;> rfl
theorem pairsOf_length (s : List FpM.V4) : (pairsOf s).length = s.length := by
  unfold pairsOf
  cases h : s.getLast? with
  | none => rw [List.getLast?_eq_none_iff.mp h]; rfl
  | some l => exact FpM.pairs_length l s
theorem pair_at {H : Hp} {us : List V} {s : List FpM.V4} {k : Nat} (h : A2 (V4V H) us s) (hk : k < s.length) : ∃ a b u v, (pairsOf s)[k]? = some (u, v) ∧ atI us (0 + (k : Int) - 1) = some (.ref a) ∧ V4At H a u ∧ atI us (0 + (k : Int)) = some (.ref b) ∧ V4At H b v ∧ u ∈ s ∧ v ∈ s := by
  have lu := h.length
  obtain ⟨v, hv⟩ : ∃ v, s[k]? = some v := ⟨s[k], List.getElem?_eq_getElem hk⟩
  obtain ⟨b', hb', b, rfl, eb⟩ := h.get' hv
  cases hl : s.getLast? with
  | none => rw [List.getLast?_eq_none_iff.mp hl] at hk; simp at hk
  | some l =>
    obtain ⟨u, e1, e2⟩ := FpM.pairs_get l s k v hv
    have ep : (pairsOf s)[k]? = some (u, v) := by unfold pairsOf; rw [hl]; exact e1
    have ab := at_nat (xs := us) hb'
    by_cases k0 : k = 0
    · subst k0
      rw [if_pos rfl] at e2
      subst e2
      obtain ⟨s0, x, rfl⟩ := snoc_of' (l := s) (by omega)
      obtain ⟨us0, y, rfl, _, a, rfl, ea⟩ := a2_unsnoc h
      have ex : x = u := by simpa using hl
      subst ex
      refine ⟨a, b, x, v, ep, ?_, ea, ab, eb, by simp, List.mem_of_getElem? hv⟩
      exact atI_last us0 (V.ref a)
    · rw [if_neg k0] at e2
      obtain ⟨a', ha', a, rfl, ea⟩ := h.get' e2
      refine ⟨a, b, u, v, ep, ?_, ea, ab, eb, List.mem_of_getElem? e2, List.mem_of_getElem? hv⟩
      have := atI_nat ha'
      rw [show (0 : Int) + (k : Int) - 1 = ((k - 1 : Nat) : Int) by omega]
      exact this
theorem piece_len (g : FpM.Lf) (u v : FpM.V4) : (FpM.piece g u v).length ≤ 2 := by
  unfold FpM.piece
  split <;> split <;> simp
theorem clipP_snoc (g : FpM.Lf) (ps : List (FpM.V4 × FpM.V4)) (u v : FpM.V4) : FpM.clipP g (ps ++ [(u, v)]) = FpM.clipP g ps ++ FpM.piece g u v := by
  unfold FpM.clipP
  simp
end
section
def sp_law_clip (_ : PySem.W.Frag) : Sp := fun vs H Q _ => ∃ (l : Addr) (us : List V) (s : List FpM.V4) (m ax : Nat) (sign at_ : Int), vs = [.ref l, .int ax, .int sign, .int at_] ∧ H l = some (.lst us) ∧ A2 (V4V H) us s ∧ s.length ≤ 400 ∧ (∀ v ∈ s, B4 m v) ∧ m ≤ 2000 ∧ ax < 3 ∧ (sign = 1 ∨ sign = -1) ∧ Bt_ 10 at_ ∧
  ∀ (r : Addr) (ws : List V) H', H r = none → Same H H' → H' r = some (.lst ws) → A2 (V4V H') ws (FpM.clipM (FpM.axL ax sign at_) s) → ws.length ≤ 2 * s.length → Q (.ref r) H'
abbrev s_law_clip : Stmt := topS 65
abbrev N_law_clip : List Str := ["_law_shape", "_law_axis", "_law_sign", "_law_at", "_law_found", "_law_k", "_law_one", "_law_other", "_law_first", "_law_second"]
theorem sc_law_clip : FnScope N_law_clip ["_law_shape", "_law_axis", "_law_sign", "_law_at"] (defScope s_law_clip) := ⟨rfl, rfl, rfl, by decide +kernel, rfl, by decide +kernel, by decide +kernel⟩
theorem bd_law_clip : BindsOf ["_law_shape", "_law_axis", "_law_sign", "_law_at"] "_law_clip" "_law_clip" s_law_clip := fun _ _ _ _ _ _ us hl => match us, hl with | [_, _, _, _], _ => rfl
theorem cal_law_clip {P : Program} {w : World} {K : PySem.W.Frag} {mg : Str → Option Value} {base : Heap} (T : Tx K mg) : Cal P w K mg base "_law_clip" 3 ["_law_shape", "_law_axis", "_law_sign", "_law_at"] (sp_law_clip K) := by
  refine T.law_clip.cal sc_law_clip bd_law_clip (fun vs H Q E h => ?_) (fun f cdv A outer s H vs Q E hr h => ?_)
  · obtain ⟨l, us, s, m, ax, sign, at_, rfl, hl, a2, ls, bs, hm, hax, hs, ha, k⟩ := h; rfl
  · have hu := hu_of hr
    obtain ⟨l, us, s, m, ax, sign, at_, rfl, hl, a2, ls, bs, hm, hax, hs, ha, k⟩ := h
    refine ⟨_, (pss_cons (ps_set (i := 4) sc_law_clip.nd rfl (.inl rfl) (pe_lst pa_nil))
      (pss_cons (ps_for PassesOwn.never rfl (pi_range1 (by rfl) T.range (pa_cons (pe_callB (c_len K) (by rfl) T.len PySem.boot_len (pa_cons (pv 0) pa_nil)) pa_nil)) (pg_name (i := 5) sc_law_clip.nd rfl (.inl rfl)) (pss_cons (ps_set (i := 6) sc_law_clip.nd rfl (.inl rfl) (pe_ix (x_list K) (pv 0) (pe_op o_sub (pv 5) pe_int) (fun _ _ => rfl)))
      (pss_cons (ps_set (i := 7) sc_law_clip.nd rfl (.inl rfl) (pe_ix (x_list K) (pv 0) (pv 5) (fun _ _ => rfl)))
      (pss_cons (ps_set (i := 8) sc_law_clip.nd rfl (.inl rfl) (pe_callC (cal_law_beyond (K := K) T) (hr.mono (by decide)) (by rfl) (pa_cons (pv 6) (pa_cons (pv 1) (pa_cons (pv 2) (pa_cons (pv 3) pa_nil))))))
      (pss_cons (ps_set (i := 9) sc_law_clip.nd rfl (.inl rfl) (pe_callC (cal_law_beyond (K := K) T) (hr.mono (by decide)) (by rfl) (pa_cons (pv 7) (pa_cons (pv 1) (pa_cons (pv 2) (pa_cons (pv 3) pa_nil))))))
      (Evl.pss_cut (ps_if (PW.pt (pw_or (PW.pt (pw_and (pt_cmpR op_gt1 (pv 8) pe_int (nomark _)) (pw_and1 (pt_cmpR o_lt (pv 9) pe_int (nomark _))))) (pw_or1 (PW.pt (pw_and (pt_cmpR o_lt (pv 8) pe_int (nomark _)) (pw_and1 (pt_cmpR op_gt1 (pv 9) pe_int (nomark _)))))))) (pss_one (ps_expr (pe_bm PySem.F.plainAttrs_list PySem.F.slot_list_append PySem.F.type_list_append mt_append (pv 4) (pa_cons (pe_callC (cal_law_cut (K := K) T) (hr.mono (by decide)) (by rfl) (pa_cons (pv 6) (pa_cons (pv 7) (pa_cons (pv 1) (pa_cons (pv 2) (pa_cons (pv 3) pa_nil)))))) pa_nil)))) pss_nil)
      (pss_one (ps_if (pt_cmpR o_le (pv 9) pe_int (nomark _)) (pss_one (ps_expr (pe_bm PySem.F.plainAttrs_list PySem.F.slot_list_append PySem.F.type_list_append mt_append (pv 4) (pa_cons (pv 7) pa_nil)))) pss_nil))))))))
      (pss_one (ps_ret (pv 4))))), ?_⟩
    change (_ : TS) _ [some _, some _, some _, some _, none, none, none, none, none, none] H
    have lu := a2.length
    generalize hg : FpM.axL ax sign at_ = g at k
    wtm_at "go"
    rename_i F hF
    refine i_lenL (upd_new hF hl) ?_
    wtm_at "go"
    rw [show ((us.length : Nat) : Int).toNat = us.length by simp]
    refine for_range (fun n σ H' => (∃ y5 y6 y7 y8 y9, σ = [some (.ref l), some (.int ax), some (.int sign), some (.int at_), some (.ref F), y5, y6, y7, y8, y9]) ∧ Same H H' ∧ ∃ ws : List V, H' F = some (.lst ws) ∧ A2 (V4V H') ws (FpM.clipP g ((pairsOf s).take n)) ∧ ws.length ≤ 2 * n)
      ⟨⟨_, _, _, _, _, rfl⟩, same_new hF, [], upd_same, .nil, Nat.zero_le _⟩ (fun n σ H2 hn h2 => ?_) (fun σ H2 h2 => ?_)
    · obtain ⟨⟨y5, y6, y7, y8, y9, rfl⟩, s2, ws, hF2, w2, lw⟩ := h2
      obtain ⟨a, b, u, v, ep, x1, ea, x2, eb, mu, mv⟩ := pair_at a2 (show n < s.length by omega)
      have hl2 := s2 _ _ hl
      have et := take_snoc ep
      wtm_at "go"
      refine do_law_beyond (s2 _ _ ea) hax hs ha fun H3 s3 => ?_
      wtm_at "go"
      refine do_law_beyond (s3 _ _ (s2 _ _ eb)) hax hs ha fun H4 s4 => ?_
      rw [hg]
      wtm_at "go"
      have s24 : Same H2 H4 := s3.trans s4
      have hF4 := s24 _ _ hF2
      have w4 : A2 (V4V H4) ws (FpM.clipP g ((pairsOf s).take n)) := w2.mono fun v o h => h.tt (Tk.of s24)
      have lw1 : ws.length ≤ 1000 := by omega
      refine i_cut (fun σ' H' => σ' = [some (.ref l), some (.int ax), some (.int sign), some (.int at_), some (.ref F), some (.int (0 + (n : Int))), some (.ref a), some (.ref b), some (.int (g.on u)), some (.int (g.on v))] ∧ Same H H' ∧ ∃ ws : List V, H' F = some (.lst ws) ∧ A2 (V4V H') ws (FpM.clipP g ((pairsOf s).take n) ++ if FpM.Crosses g u v then [FpM.cutG g u v] else []) ∧ ws.length ≤ 2 * n + 1) ?_ ?_
      · have yes : FpM.Crosses g u v → ∀ (c : Addr) H5, Same H4 H5 → V4At H5 c (FpM.cutG g u v) → Same H (upd H5 F (.lst (ws ++ [.ref c]))) ∧ ∃ ws' : List V, (upd H5 F (.lst (ws ++ [.ref c]))) F = some (.lst ws') ∧ A2 (V4V (upd H5 F (.lst (ws ++ [.ref c])))) ws' (FpM.clipP g ((pairsOf s).take n) ++ if FpM.Crosses g u v then [FpM.cutG g u v] else []) ∧ ws'.length ≤ 2 * n + 1 := fun hc c H5 s5 hc5 => by
          have hF5 := s5 _ _ hF4
          refine ⟨same_mut hF (s2.trans (s24.trans s5)), _, upd_same, ?_, by simp; omega⟩
          rw [if_pos hc]
          exact (w4.mono fun v o h => h.tt ((Tk.of s5).trans (Tk.lst hF5))).snoc ⟨c, rfl, upd_tup hF5 hc5⟩
        have no : ¬ FpM.Crosses g u v → Same H H4 ∧ ∃ ws' : List V, H4 F = some (.lst ws') ∧ A2 (V4V H4) ws' (FpM.clipP g ((pairsOf s).take n) ++ if FpM.Crosses g u v then [FpM.cutG g u v] else []) ∧ ws'.length ≤ 2 * n + 1 := fun hc => by
          refine ⟨s2.trans s24, ws, hF4, ?_, by omega⟩
          rw [if_neg hc, List.append_nil]
          exact w4
        wtm_at "go"
        all_goals first
          | (refine do_law_cut (s24 _ _ (s2 _ _ ea)) (s24 _ _ (s2 _ _ eb)) (bs u mu) (bs v mv) hm hax hs ha fun c H5 s5 hc5 => ?_
             have hF5 := s5 _ _ hF4
             wtm_at "go"
             exact ⟨rfl, yes (by unfold FpM.Crosses; omega) c H5 s5 (by rw [← hg]; exact hc5)⟩)
          | exact ⟨rfl, no (by unfold FpM.Crosses; omega)⟩
      · rintro σ' H5 ⟨rfl, s5, ws5, hF5, w5, lw5⟩
        have lw6 : ws5.length ≤ 1000 := by omega
        wtm_at "go"
        · refine ⟨⟨_, _, _, _, _, rfl⟩, same_mut hF s5, _, upd_same, ?_, by simp; omega⟩
          rw [et, clipP_snoc]
          unfold FpM.piece
          rw [if_pos (show g.on v ≤ 0 by assumption), ← List.append_assoc]
          exact (w5.mono fun v o h => h.tt (Tk.lst hF5)).snoc ⟨b, rfl, upd_tup hF5 (s5 _ _ eb)⟩
        · refine ⟨⟨_, _, _, _, _, rfl⟩, s5, ws5, hF5, ?_, by omega⟩
          rw [et, clipP_snoc]
          unfold FpM.piece
          rw [if_neg (show ¬ g.on v ≤ 0 by assumption), List.append_nil]
          exact w5
    · obtain ⟨⟨y5, y6, y7, y8, y9, rfl⟩, s2, ws, hF2, w2, lw⟩ := h2
      wtm_at "go"
      refine k F ws _ hF s2 hF2 ?_ (by omega)
      rw [clipM_eq]
      rw [List.take_of_length_le (by rw [pairsOf_length]; omega)] at w2
      exact w2
theorem do_law_clip {K : PySem.W.Frag} {H : Hp} {Q : VK} {l : Addr} {us : List V} {s : List FpM.V4} {m ax : Nat} {sign at_ : Int} (hl : H l = some (.lst us)) (a2 : A2 (V4V H) us s) (ls : s.length ≤ 400) (bs : ∀ v ∈ s, B4 m v) (hm : m ≤ 2000) (hax : ax < 3) (hs : sign = 1 ∨ sign = -1) (ha : Bt_ 10 at_)
    (k : ∀ (r : Addr) (ws : List V) H', H r = none → Same H H' → H' r = some (.lst ws) → A2 (V4V H') ws (FpM.clipM (FpM.axL ax sign at_) s) → ws.length ≤ 2 * s.length → Q (.ref r) H') : sp_law_clip K [.ref l, .int ax, .int sign, .int at_] H Q E0 := ⟨l, us, s, m, ax, sign, at_, rfl, hl, a2, ls, bs, hm, hax, hs, ha, k⟩
theorem clip_bt {m ax : Nat} {sign at_ : Int} {s : List FpM.V4} (bs : ∀ v ∈ s, B4 m v) (hs : sign = 1 ∨ sign = -1) (ha : Bt_ 10 at_) : ∀ v ∈ FpM.clipM (FpM.axL ax sign at_) s, B4 (2 * m + 12) v := by
  intro v hv
  rw [clipM_eq] at hv
  unfold FpM.clipP at hv
  obtain ⟨⟨u, w⟩, hq, hp⟩ := List.mem_flatMap.mp hv
  obtain ⟨n, hn, e⟩ := List.mem_iff_getElem.mp hq
  have mem : u ∈ s ∧ w ∈ s := by
    have hn' : n < s.length := by rw [← pairsOf_length]; exact hn
    have hg : (pairsOf s)[n]? = some (u, w) := by rw [List.getElem?_eq_getElem hn, e]
    unfold pairsOf at hg
    cases hl : s.getLast? with
    | none => rw [hl] at hg; simp at hg
    | some l =>
      rw [hl] at hg
      obtain ⟨x, hx⟩ : ∃ x, s[n]? = some x := ⟨s[n], List.getElem?_eq_getElem hn'⟩
      obtain ⟨y, e1, e2⟩ := FpM.pairs_get l s n x hx
      rw [show (match some l with | none => [] | some l => FpM.pairs l s) = FpM.pairs l s from rfl, e1] at hg
      cases hg
      refine ⟨?_, List.mem_of_getElem? hx⟩
      split at e2
      · rw [e2]; exact List.mem_of_getLast? hl
      · exact List.mem_of_getElem? e2
  unfold FpM.piece at hp
  rcases List.mem_append.mp hp with hp | hp
  · split at hp
    · rw [List.mem_singleton.mp hp]
      exact cut_bt (bs u mem.1) (bs w mem.2) hs ha
    · simp at hp
  · split at hp
    · rw [List.mem_singleton.mp hp]
      have := bs w mem.2
      exact ⟨this.1.mono (by omega), this.2.1.mono (by omega), this.2.2.1.mono (by omega), this.2.2.2.mono (by omega)⟩
    · simp at hp
end
section
/-- a side of the box: axis, sign, place -/
def DV (H : Hp) (v : V) (d : Nat × Int × Int) : Prop := ∃ a, v = .ref a ∧ H a = some (.tup [.int (d.1 : Int), .int d.2.1, .int d.2.2])
theorem DV.tt {H H' : Hp} {v : V} {d : Nat × Int × Int} (h : DV H v d) (t : Tk H H') : DV H' v d := by
  obtain ⟨a, rfl, e⟩ := h
  exact ⟨a, rfl, t _ _ e⟩
def DOk (d : Nat × Int × Int) : Prop := d.1 < 3 ∧ (d.2.1 = 1 ∨ d.2.1 = -1) ∧ Bt_ 10 d.2.2
def lfOf (d : Nat × Int × Int) : FpM.Lf := FpM.axL d.1 d.2.1 d.2.2
def bitsN : Nat → Nat
  | 0 => 10
  | n + 1 => 2 * bitsN n + 12
/-- the shape behind n clips -/
structure ShAt (ds : List (Nat × Int × Int)) (R : FpM.Tr) (n : Nat) (H : Hp) (l : Addr) : Prop where
  ex : ∃ ws : List V, H l = some (.lst ws) ∧ A2 (V4V H) ws (FpM.clipsM ((ds.take n).map lfOf) (FpM.base R)) ∧ ws.length ≤ 3 * 2 ^ n ∧ ∀ v ∈ FpM.clipsM ((ds.take n).map lfOf) (FpM.base R), B4 (bitsN n) v
theorem ShAt.same {ds : List (Nat × Int × Int)} {R : FpM.Tr} {n : Nat} {H H' : Hp} {l : Addr} (h : ShAt ds R n H l) (s : Same H H') : ShAt ds R n H' l := by
  obtain ⟨ws, h1, h2, h3⟩ := h.ex
  exact ⟨ws, s _ _ h1, h2.mono fun v o h => h.tt (Tk.of s), h3⟩
theorem clipsM_snoc (gs : List FpM.Lf) (g : FpM.Lf) (s : List FpM.V4) : FpM.clipsM (gs ++ [g]) s = FpM.clipM g (FpM.clipsM gs s) := by
  unfold FpM.clipsM
  simp
theorem bits_small {n : Nat} (h : n ≤ 6) : bitsN n ≤ 1396 := by
  match n, h with
  | 0, _ => decide
  | 1, _ => decide
  | 2, _ => decide
  | 3, _ => decide
  | 4, _ => decide
  | 5, _ => decide
  | 6, _ => decide
theorem pow_small {n : Nat} (h : n ≤ 6) : 3 * 2 ^ n ≤ 192 := by
  match n, h with
  | 0, _ => decide
  | 1, _ => decide
  | 2, _ => decide
  | 3, _ => decide
  | 4, _ => decide
  | 5, _ => decide
  | 6, _ => decide
/-- one more clip -/
theorem do_clip_step {K : PySem.W.Frag} {H : Hp} {Q : VK} {l : Addr} {ds : List (Nat × Int × Int)} {R : FpM.Tr} {n : Nat} {d : Nat × Int × Int} (sh : ShAt ds R n H l) (hd : ds[n]? = some d) (ok : DOk d) (h6 : n ≤ 5)
    (k : ∀ (r : Addr) H', H r = none → Same H H' → ShAt ds R (n + 1) H' r → Q (.ref r) H') : sp_law_clip K [.ref l, .int (d.1 : Int), .int d.2.1, .int d.2.2] H Q E0 := by
  obtain ⟨ws, hl, a2, lw, bs⟩ := sh.ex
  have b1 := bits_small (n := n) (by omega)
  have b2 := pow_small (n := n) (by omega)
  have la := a2.length
  refine do_law_clip hl a2 (by omega) bs (by omega) ok.1 ok.2.1 ok.2.2 fun r ws' H' nr s hr a' lw' => k r H' nr s ⟨ws', hr, ?_, ?_, ?_⟩
  · rw [take_snoc hd, List.map_append]
    show A2 (V4V H') ws' (FpM.clipsM ((ds.take n).map lfOf ++ [lfOf d]) (FpM.base R))
    rw [clipsM_snoc]
    exact a'
  · rw [Nat.pow_succ]; omega
  · rw [take_snoc hd, List.map_append]
    show ∀ v ∈ FpM.clipsM ((ds.take n).map lfOf ++ [lfOf d]) (FpM.base R), B4 (bitsN (n + 1)) v
    rw [clipsM_snoc]
    exact clip_bt bs ok.2.1 ok.2.2
theorem base_bt {R : FpM.Tr} (sm : TrSm R) : ∀ v ∈ FpM.base R, B4 10 v := by
  intro v hv
  have c : ∀ i : Int, Sm i → Bt_ 10 i := fun i h => by unfold Sm at h; unfold Bt_; omega
  have one : Bt_ 10 1 := by unfold Bt_; decide
  unfold FpM.base at hv
  simp only [List.mem_cons, List.not_mem_nil, or_false] at hv
  rcases hv with rfl | rfl | rfl
  · exact ⟨c _ sm.ax, c _ sm.ay, c _ sm.az, one⟩
  · exact ⟨c _ sm.bx, c _ sm.by_, c _ sm.bz, one⟩
  · exact ⟨c _ sm.cx, c _ sm.cy, c _ sm.cz, one⟩
end
section
def dsO (x0 z0 x1 z1 : Int) : List (Nat × Int × Int) := [(0, -1, x0), (0, 1, x1), (2, -1, z0), (2, 1, z1)]
def sp_law_over (_ : PySem.W.Frag) : Sp := fun vs H Q _ => ∃ (t : Addr) (R : FpM.Tr) (x0 z0 x1 z1 : Int), vs = [.ref t, .int x0, .int z0, .int x1, .int z1] ∧ TriAt H t R ∧ TrSm R ∧ (Bt_ 10 x0 ∧ Bt_ 10 z0 ∧ Bt_ 10 x1 ∧ Bt_ 10 z1) ∧ ∀ (r : Addr) H', Same H H' → ShAt (dsO x0 z0 x1 z1) R 4 H' r → Q (.ref r) H'
abbrev s_law_over : Stmt := topS 66
abbrev N_law_over : List Str := ["_law_triangle_here", "_law_x0", "_law_z0", "_law_x1", "_law_z1", "_law_shape", "_law_x", "_law_y", "_law_z", "_law_axis", "_law_sign", "_law_at"]
theorem sc_law_over : FnScope N_law_over ["_law_triangle_here", "_law_x0", "_law_z0", "_law_x1", "_law_z1"] (defScope s_law_over) := ⟨rfl, rfl, rfl, by decide +kernel, rfl, by decide +kernel, by decide +kernel⟩
theorem bd_law_over : BindsOf ["_law_triangle_here", "_law_x0", "_law_z0", "_law_x1", "_law_z1"] "_law_over" "_law_over" s_law_over := fun _ _ _ _ _ _ us hl => match us, hl with | [_, _, _, _, _], _ => rfl
theorem cal_law_over {P : Program} {w : World} {K : PySem.W.Frag} {mg : Str → Option Value} {base : Heap} (T : Tx K mg) : Cal P w K mg base "_law_over" 4 ["_law_triangle_here", "_law_x0", "_law_z0", "_law_x1", "_law_z1"] (sp_law_over K) := by
  refine T.law_over.cal sc_law_over bd_law_over (fun vs H Q E h => ?_) (fun f cdv A outer s H vs Q E hr h => ?_)
  · obtain ⟨t, R, x0, z0, x1, z1, rfl, htr, sm, bb, k⟩ := h; rfl
  · have hu := hu_of hr
    obtain ⟨t, R, x0, z0, x1, z1, rfl, htr, sm, bb, k⟩ := h
    refine ⟨_, (pss_cons (ps_setLc (i := 5) (own := [("_law_x", 6), ("_law_y", 7), ("_law_z", 8)]) rfl sc_law_over.nd rfl rfl (sw_true rfl rfl rfl (by decide +kernel)) (pi_tup (pv 0)) (blkOk_by (own := [("_law_x", 6), ("_law_y", 7), ("_law_z", 8)]) (N := N_law_over) (sc := defScope (topS 66)) (by decide +kernel)) (fun _ _ _ _ _ => (g_tup K 3 rfl (pgs_cons (pg_name (i := 6) sc_law_over.nd rfl (.inl rfl) (.inr rfl)) (pgs_cons (pg_name (i := 7) sc_law_over.nd rfl (.inl rfl) (.inr rfl)) (pgs_cons (pg_name (i := 8) sc_law_over.nd rfl (.inl rfl) (.inr rfl)) pgs_nil))) rfl rfl rfl)) (fun _ _ _ _ _ => pts_nil) (fun _ _ _ _ _ => (pe_tup (pa_cons (pv 6) (pa_cons (pv 7) (pa_cons (pv 8) (pa_cons pe_int pa_nil)))))))
      (pss_cons (ps_for PassesOwn.never rfl (pi_list (pe_lst (pa_cons (pe_tup (pa_cons pe_int (pa_cons (pe_un u_neg pe_int) (pa_cons (pv 1) pa_nil)))) (pa_cons (pe_tup (pa_cons pe_int (pa_cons pe_int (pa_cons (pv 3) pa_nil)))) (pa_cons (pe_tup (pa_cons pe_int (pa_cons (pe_un u_neg pe_int) (pa_cons (pv 2) pa_nil)))) (pa_cons (pe_tup (pa_cons pe_int (pa_cons pe_int (pa_cons (pv 4) pa_nil)))) pa_nil)))))) (pg_tup rfl (pgs_cons (pg_name (i := 9) sc_law_over.nd rfl (.inl rfl)) (pgs_cons (pg_name (i := 10) sc_law_over.nd rfl (.inl rfl)) (pgs_cons (pg_name (i := 11) sc_law_over.nd rfl (.inl rfl)) pgs_nil)))) (pss_one (ps_set (i := 5) sc_law_over.nd rfl (.inl rfl) (pe_callC (cal_law_clip (K := K) T) (hr.mono (by decide)) (by rfl) (pa_cons (pv 5) (pa_cons (pv 9) (pa_cons (pv 10) (pa_cons (pv 11) pa_nil))))))))
      (pss_one (ps_ret (pv 5))))), ?_⟩
    change (_ : TS) _ [some _, some _, some _, some _, some _, none, none, none, none, none, none, none] H
    obtain ⟨a, b, c, ht, ha, hb, hc⟩ := id htr
    wtm_at "go"
    intro D hD
    refine lc_mapT ht hD (szt (by simp)) (fun j y H => ∃ v q, (FpM.base R)[j]? = some v ∧ y = .ref q ∧ q ≠ D ∧ V4At H q v) (fun _ _ _ _ h b => by obtain ⟨v, q, e1, e2, n, e3⟩ := h; exact ⟨v, q, e1, e2, n, b _ _ n e3⟩) (fun j x H4 C G hj s4 acc kC => ?_) (fun zs H4 s4 hz hzl he => ?_)
    · obtain ⟨p, q', hp, rfl, hq⟩ : ∃ (p : FpM.Pt) (q : Addr), (FpM.base R)[j]? = some (FpM.v4 p) ∧ x = .ref q ∧ T3 H q p.x p.y p.z := by
        match j, hj with
        | 0, hj => exact ⟨R.a, a, rfl, by simpa using hj.symm, ha⟩
        | 1, hj => exact ⟨R.b, b, rfl, by simpa using hj.symm, hb⟩
        | 2, hj => exact ⟨R.c, c, rfl, by simpa using hj.symm, hc⟩
        | j + 3, hj => simp at hj
      have hq4 := s4 _ _ hq
      obtain ⟨ac, hac⟩ := acc
      change gTup _ _ _ _ [some _, some _, some _, some _, some _, none, none, none, none, none, none, none] _ _
      wtm_at "go"
      rename_i w hw
      exact kC _ _ (same_new hw) ⟨_, w, hp, rfl, (ne_of_none hac hw).symm, upd_same⟩
    · have b4 : A2 (V4V H4) zs (FpM.base R) := a2_of (by rw [hzl]; rfl) fun j y h => by
        obtain ⟨v, q, e1, e2, _, e3⟩ := he j y h
        exact ⟨v, e1, q, e2, e3⟩
      have sh0 : ShAt (dsO x0 z0 x1 z1) R 0 H4 D := ⟨zs, hz, b4, by rw [hzl]; simp, base_bt sm⟩
      wtm_at "go"
      rename_i p1 hp1 p2 hp2 p3 hp3 p4 hp4 L hL
      have s5 : Same H4 (upd (upd (upd (upd (upd H4 p1 (.tup [.int 0, .int (-1), .int x0])) p2 (.tup [.int 0, .int 1, .int x1])) p3 (.tup [.int 2, .int (-1), .int z0])) p4 (.tup [.int 2, .int 1, .int z1])) L (.lst [.ref p1, .ref p2, .ref p3, .ref p4])) := by wtm_at "sm"
      have hds : A2 (DV (upd (upd (upd (upd (upd H4 p1 (.tup [.int 0, .int (-1), .int x0])) p2 (.tup [.int 0, .int 1, .int x1])) p3 (.tup [.int 2, .int (-1), .int z0])) p4 (.tup [.int 2, .int 1, .int z1])) L (.lst [.ref p1, .ref p2, .ref p3, .ref p4]))) [.ref p1, .ref p2, .ref p3, .ref p4] (dsO x0 z0 x1 z1) :=
        .cons ⟨p1, rfl, by wtm_at "hp"⟩ (.cons ⟨p2, rfl, by wtm_at "hp"⟩ (.cons ⟨p3, rfl, by wtm_at "hp"⟩ (.cons ⟨p4, rfl, by wtm_at "hp"⟩ .nil)))
      have hL5 : (upd (upd (upd (upd (upd H4 p1 (.tup [.int 0, .int (-1), .int x0])) p2 (.tup [.int 0, .int 1, .int x1])) p3 (.tup [.int 2, .int (-1), .int z0])) p4 (.tup [.int 2, .int 1, .int z1])) L (.lst [.ref p1, .ref p2, .ref p3, .ref p4])) L = some (.lst [.ref p1, .ref p2, .ref p3, .ref p4]) := upd_same
      generalize upd (upd (upd (upd (upd H4 p1 (.tup [.int 0, .int (-1), .int x0])) p2 (.tup [.int 0, .int 1, .int x1])) p3 (.tup [.int 2, .int (-1), .int z0])) p4 (.tup [.int 2, .int 1, .int z1])) L (.lst [.ref p1, .ref p2, .ref p3, .ref p4]) = H5 at s5 hds hL5
      have oks : ∀ d ∈ dsO x0 z0 x1 z1, DOk d := by
        intro d hd
        unfold dsO at hd
        simp only [List.mem_cons, List.not_mem_nil, or_false] at hd
        rcases hd with rfl | rfl | rfl | rfl
        · exact ⟨by simp, .inr rfl, bb.1⟩
        · exact ⟨by simp, .inl rfl, bb.2.2.1⟩
        · exact ⟨by simp, .inr rfl, bb.2.1⟩
        · exact ⟨by simp, .inl rfl, bb.2.2.2⟩
      refine for_list (xs := [.ref p1, .ref p2, .ref p3, .ref p4]) (fun n σ H' => (∃ l y6 y7 y8 y9 y10 y11, σ = [some (.ref t), some (.int x0), some (.int z0), some (.int x1), some (.int z1), some (.ref l), y6, y7, y8, y9, y10, y11] ∧ ShAt (dsO x0 z0 x1 z1) R n H' l) ∧ Same H5 H')
        ⟨⟨D, _, _, _, _, _, _, rfl, sh0.same s5⟩, Same.refl _⟩ (fun n σ H' _ h' => SqL.of (h'.2 _ _ hL5)) (fun n x σ H6 hx h6 => ?_) (fun σ H6 h6 => ?_)
      · obtain ⟨⟨l, y6, y7, y8, y9, y10, y11, rfl, sh⟩, s6⟩ := h6
        obtain ⟨d, hd, q, rfl, hq⟩ := hds.get hx
        have hn : n < 4 := by have := (List.getElem?_eq_some_iff.mp hx).1; simpa using this
        have hq6 := s6 _ _ hq
        wtm_at "go"
        refine do_clip_step sh hd (oks d (List.mem_of_getElem? hd)) (by omega) fun r H7 nr s7 sh7 => ?_
        wtm_at "go"
        exact ⟨⟨r, _, _, _, _, _, _, rfl, sh7⟩, s6.trans s7⟩
      · obtain ⟨⟨l, y6, y7, y8, y9, y10, y11, rfl, sh⟩, s6⟩ := h6
        wtm_at "go"
        exact k l _ (s4.trans (s5.trans s6)) sh
theorem do_law_over {K : PySem.W.Frag} {H : Hp} {Q : VK} {t : Addr} {R : FpM.Tr} {x0 z0 x1 z1 : Int} (htr : TriAt H t R) (sm : TrSm R) (bb : Bt_ 10 x0 ∧ Bt_ 10 z0 ∧ Bt_ 10 x1 ∧ Bt_ 10 z1) (k : ∀ (r : Addr) H', Same H H' → ShAt (dsO x0 z0 x1 z1) R 4 H' r → Q (.ref r) H') : sp_law_over K [.ref t, .int x0, .int z0, .int x1, .int z1] H Q E0 := ⟨t, R, x0, z0, x1, z1, rfl, htr, sm, bb, k⟩
end
section
def dsB (x0 y0 z0 x1 y1 z1 : Int) : List (Nat × Int × Int) := [(0, -1, x0), (0, 1, x1), (1, -1, y0), (1, 1, y1), (2, -1, z0), (2, 1, z1)]
def sp_law_boxed (_ : PySem.W.Frag) : Sp := fun vs H Q _ => ∃ (t : Addr) (R : FpM.Tr) (x0 y0 z0 x1 y1 z1 : Int), vs = [.ref t, .int x0, .int y0, .int z0, .int x1, .int y1, .int z1] ∧ TriAt H t R ∧ TrSm R ∧ (Bt_ 10 x0 ∧ Bt_ 10 y0 ∧ Bt_ 10 z0 ∧ Bt_ 10 x1 ∧ Bt_ 10 y1 ∧ Bt_ 10 z1) ∧ ∀ (r : Addr) H', Same H H' → ShAt (dsB x0 y0 z0 x1 y1 z1) R 6 H' r → Q (.ref r) H'
abbrev s_law_boxed : Stmt := topS 69
abbrev N_law_boxed : List Str := ["_law_triangle_here", "_law_x0", "_law_y0", "_law_z0", "_law_x1", "_law_y1", "_law_z1", "_law_shape", "_law_x", "_law_y", "_law_z", "_law_axis", "_law_sign", "_law_at"]
theorem sc_law_boxed : FnScope N_law_boxed ["_law_triangle_here", "_law_x0", "_law_y0", "_law_z0", "_law_x1", "_law_y1", "_law_z1"] (defScope s_law_boxed) := ⟨rfl, rfl, rfl, by decide +kernel, rfl, by decide +kernel, by decide +kernel⟩
theorem bd_law_boxed : BindsOf ["_law_triangle_here", "_law_x0", "_law_y0", "_law_z0", "_law_x1", "_law_y1", "_law_z1"] "_law_boxed" "_law_boxed" s_law_boxed := fun _ _ _ _ _ _ us hl => match us, hl with | [_, _, _, _, _, _, _], _ => rfl
theorem cal_law_boxed {P : Program} {w : World} {K : PySem.W.Frag} {mg : Str → Option Value} {base : Heap} (T : Tx K mg) : Cal P w K mg base "_law_boxed" 4 ["_law_triangle_here", "_law_x0", "_law_y0", "_law_z0", "_law_x1", "_law_y1", "_law_z1"] (sp_law_boxed K) := by
  refine T.law_boxed.cal sc_law_boxed bd_law_boxed (fun vs H Q E h => ?_) (fun f cdv A outer s H vs Q E hr h => ?_)
  · obtain ⟨t, R, x0, y0, z0, x1, y1, z1, rfl, htr, sm, bb, k⟩ := h; rfl
  · have hu := hu_of hr
    obtain ⟨t, R, x0, y0, z0, x1, y1, z1, rfl, htr, sm, bb, k⟩ := h
    refine ⟨_, (pss_cons (ps_setLc (i := 7) (own := [("_law_x", 8), ("_law_y", 9), ("_law_z", 10)]) rfl sc_law_boxed.nd rfl rfl (sw_true rfl rfl rfl (by decide +kernel)) (pi_tup (pv 0)) (blkOk_by (own := [("_law_x", 8), ("_law_y", 9), ("_law_z", 10)]) (N := N_law_boxed) (sc := defScope (topS 69)) (by decide +kernel)) (fun _ _ _ _ _ => (g_tup K 3 rfl (pgs_cons (pg_name (i := 8) sc_law_boxed.nd rfl (.inl rfl) (.inr rfl)) (pgs_cons (pg_name (i := 9) sc_law_boxed.nd rfl (.inl rfl) (.inr rfl)) (pgs_cons (pg_name (i := 10) sc_law_boxed.nd rfl (.inl rfl) (.inr rfl)) pgs_nil))) rfl rfl rfl)) (fun _ _ _ _ _ => pts_nil) (fun _ _ _ _ _ => (pe_tup (pa_cons (pv 8) (pa_cons (pv 9) (pa_cons (pv 10) (pa_cons pe_int pa_nil)))))))
      (pss_cons (ps_for PassesOwn.never rfl (pi_list (pe_lst (pa_cons (pe_tup (pa_cons pe_int (pa_cons (pe_un u_neg pe_int) (pa_cons (pv 1) pa_nil)))) (pa_cons (pe_tup (pa_cons pe_int (pa_cons pe_int (pa_cons (pv 4) pa_nil)))) (pa_cons (pe_tup (pa_cons pe_int (pa_cons (pe_un u_neg pe_int) (pa_cons (pv 2) pa_nil)))) (pa_cons (pe_tup (pa_cons pe_int (pa_cons pe_int (pa_cons (pv 5) pa_nil)))) (pa_cons (pe_tup (pa_cons pe_int (pa_cons (pe_un u_neg pe_int) (pa_cons (pv 3) pa_nil)))) (pa_cons (pe_tup (pa_cons pe_int (pa_cons pe_int (pa_cons (pv 6) pa_nil)))) pa_nil)))))))) (pg_tup rfl (pgs_cons (pg_name (i := 11) sc_law_boxed.nd rfl (.inl rfl)) (pgs_cons (pg_name (i := 12) sc_law_boxed.nd rfl (.inl rfl)) (pgs_cons (pg_name (i := 13) sc_law_boxed.nd rfl (.inl rfl)) pgs_nil)))) (pss_one (ps_set (i := 7) sc_law_boxed.nd rfl (.inl rfl) (pe_callC (cal_law_clip (K := K) T) (hr.mono (by decide)) (by rfl) (pa_cons (pv 7) (pa_cons (pv 11) (pa_cons (pv 12) (pa_cons (pv 13) pa_nil))))))))
      (pss_one (ps_ret (pv 7))))), ?_⟩
    change (_ : TS) _ [some _, some _, some _, some _, some _, some _, some _, none, none, none, none, none, none, none] H
    obtain ⟨a, b, c, ht, ha, hb, hc⟩ := id htr
    wtm_at "go"
    intro D hD
    refine lc_mapT ht hD (szt (by simp)) (fun j y H => ∃ v q, (FpM.base R)[j]? = some v ∧ y = .ref q ∧ q ≠ D ∧ V4At H q v) (fun _ _ _ _ h b => by obtain ⟨v, q, e1, e2, n, e3⟩ := h; exact ⟨v, q, e1, e2, n, b _ _ n e3⟩) (fun j x H4 C G hj s4 acc kC => ?_) (fun zs H4 s4 hz hzl he => ?_)
    · obtain ⟨p, q', hp, rfl, hq⟩ : ∃ (p : FpM.Pt) (q : Addr), (FpM.base R)[j]? = some (FpM.v4 p) ∧ x = .ref q ∧ T3 H q p.x p.y p.z := by
        match j, hj with
        | 0, hj => exact ⟨R.a, a, rfl, by simpa using hj.symm, ha⟩
        | 1, hj => exact ⟨R.b, b, rfl, by simpa using hj.symm, hb⟩
        | 2, hj => exact ⟨R.c, c, rfl, by simpa using hj.symm, hc⟩
        | j + 3, hj => simp at hj
      have hq4 := s4 _ _ hq
      obtain ⟨ac, hac⟩ := acc
      change gTup _ _ _ _ [some _, some _, some _, some _, some _, some _, some _, none, none, none, none, none, none, none] _ _
      wtm_at "go"
      rename_i w hw
      exact kC _ _ (same_new hw) ⟨_, w, hp, rfl, (ne_of_none hac hw).symm, upd_same⟩
    · have b4 : A2 (V4V H4) zs (FpM.base R) := a2_of (by rw [hzl]; rfl) fun j y h => by
        obtain ⟨v, q, e1, e2, _, e3⟩ := he j y h
        exact ⟨v, e1, q, e2, e3⟩
      have sh0 : ShAt (dsB x0 y0 z0 x1 y1 z1) R 0 H4 D := ⟨zs, hz, b4, by rw [hzl]; simp, base_bt sm⟩
      wtm_at "go"
      rename_i p1 hp1 p2 hp2 p3 hp3 p4 hp4 p5 hp5 p6 hp6 L hL
      have s5 : Same H4 (upd (upd (upd (upd (upd (upd (upd H4 p1 (.tup [.int 0, .int (-1), .int x0])) p2 (.tup [.int 0, .int 1, .int x1])) p3 (.tup [.int 1, .int (-1), .int y0])) p4 (.tup [.int 1, .int 1, .int y1])) p5 (.tup [.int 2, .int (-1), .int z0])) p6 (.tup [.int 2, .int 1, .int z1])) L (.lst [.ref p1, .ref p2, .ref p3, .ref p4, .ref p5, .ref p6])) := by wtm_at "sm"
      have hds : A2 (DV (upd (upd (upd (upd (upd (upd (upd H4 p1 (.tup [.int 0, .int (-1), .int x0])) p2 (.tup [.int 0, .int 1, .int x1])) p3 (.tup [.int 1, .int (-1), .int y0])) p4 (.tup [.int 1, .int 1, .int y1])) p5 (.tup [.int 2, .int (-1), .int z0])) p6 (.tup [.int 2, .int 1, .int z1])) L (.lst [.ref p1, .ref p2, .ref p3, .ref p4, .ref p5, .ref p6]))) [.ref p1, .ref p2, .ref p3, .ref p4, .ref p5, .ref p6] (dsB x0 y0 z0 x1 y1 z1) :=
        .cons ⟨p1, rfl, by wtm_at "hp"⟩ (.cons ⟨p2, rfl, by wtm_at "hp"⟩ (.cons ⟨p3, rfl, by wtm_at "hp"⟩ (.cons ⟨p4, rfl, by wtm_at "hp"⟩ (.cons ⟨p5, rfl, by wtm_at "hp"⟩ (.cons ⟨p6, rfl, by wtm_at "hp"⟩ .nil)))))
      have hL5 : (upd (upd (upd (upd (upd (upd (upd H4 p1 (.tup [.int 0, .int (-1), .int x0])) p2 (.tup [.int 0, .int 1, .int x1])) p3 (.tup [.int 1, .int (-1), .int y0])) p4 (.tup [.int 1, .int 1, .int y1])) p5 (.tup [.int 2, .int (-1), .int z0])) p6 (.tup [.int 2, .int 1, .int z1])) L (.lst [.ref p1, .ref p2, .ref p3, .ref p4, .ref p5, .ref p6])) L = some (.lst [.ref p1, .ref p2, .ref p3, .ref p4, .ref p5, .ref p6]) := upd_same
      generalize upd (upd (upd (upd (upd (upd (upd H4 p1 (.tup [.int 0, .int (-1), .int x0])) p2 (.tup [.int 0, .int 1, .int x1])) p3 (.tup [.int 1, .int (-1), .int y0])) p4 (.tup [.int 1, .int 1, .int y1])) p5 (.tup [.int 2, .int (-1), .int z0])) p6 (.tup [.int 2, .int 1, .int z1])) L (.lst [.ref p1, .ref p2, .ref p3, .ref p4, .ref p5, .ref p6]) = H5 at s5 hds hL5
      have oks : ∀ d ∈ dsB x0 y0 z0 x1 y1 z1, DOk d := by
        intro d hd
        unfold dsB at hd
        simp only [List.mem_cons, List.not_mem_nil, or_false] at hd
        rcases hd with rfl | rfl | rfl | rfl | rfl | rfl
        · exact ⟨by simp, .inr rfl, bb.1⟩
        · exact ⟨by simp, .inl rfl, bb.2.2.2.1⟩
        · exact ⟨by simp, .inr rfl, bb.2.1⟩
        · exact ⟨by simp, .inl rfl, bb.2.2.2.2.1⟩
        · exact ⟨by simp, .inr rfl, bb.2.2.1⟩
        · exact ⟨by simp, .inl rfl, bb.2.2.2.2.2⟩
      refine for_list (xs := [.ref p1, .ref p2, .ref p3, .ref p4, .ref p5, .ref p6]) (fun n σ H' => (∃ l u6 u7 u8 u9 u10 u11, σ = [some (.ref t), some (.int x0), some (.int y0), some (.int z0), some (.int x1), some (.int y1), some (.int z1), some (.ref l), u6, u7, u8, u9, u10, u11] ∧ ShAt (dsB x0 y0 z0 x1 y1 z1) R n H' l) ∧ Same H5 H')
        ⟨⟨D, _, _, _, _, _, _, rfl, sh0.same s5⟩, Same.refl _⟩ (fun n σ H' _ h' => SqL.of (h'.2 _ _ hL5)) (fun n x σ H6 hx h6 => ?_) (fun σ H6 h6 => ?_)
      · obtain ⟨⟨l, u6, u7, u8, u9, u10, u11, rfl, sh⟩, s6⟩ := h6
        obtain ⟨d, hd, q, rfl, hq⟩ := hds.get hx
        have hn : n < 6 := by have := (List.getElem?_eq_some_iff.mp hx).1; simpa using this
        have hq6 := s6 _ _ hq
        wtm_at "go"
        refine do_clip_step sh hd (oks d (List.mem_of_getElem? hd)) (by omega) fun r H7 nr s7 sh7 => ?_
        wtm_at "go"
        exact ⟨⟨r, _, _, _, _, _, _, rfl, sh7⟩, s6.trans s7⟩
      · obtain ⟨⟨l, u6, u7, u8, u9, u10, u11, rfl, sh⟩, s6⟩ := h6
        wtm_at "go"
        exact k l _ (s4.trans (s5.trans s6)) sh
theorem do_law_boxed {K : PySem.W.Frag} {H : Hp} {Q : VK} {t : Addr} {R : FpM.Tr} {x0 y0 z0 x1 y1 z1 : Int} (htr : TriAt H t R) (sm : TrSm R) (bb : Bt_ 10 x0 ∧ Bt_ 10 y0 ∧ Bt_ 10 z0 ∧ Bt_ 10 x1 ∧ Bt_ 10 y1 ∧ Bt_ 10 z1) (k : ∀ (r : Addr) H', Same H H' → ShAt (dsB x0 y0 z0 x1 y1 z1) R 6 H' r → Q (.ref r) H') : sp_law_boxed K [.ref t, .int x0, .int y0, .int z0, .int x1, .int y1, .int z1] H Q E0 := ⟨t, R, x0, y0, z0, x1, y1, z1, rfl, htr, sm, bb, k⟩
end
section
def sp_law_box_touches (_ : PySem.W.Frag) : Sp := fun vs H Q _ => ∃ (t : Addr) (b : FpM.Bx) (x0 y0 z0 x1 y1 z1 : Int), vs = [.ref t, .int x0, .int y0, .int z0, .int x1, .int y1, .int z1] ∧ BxAt H t b ∧
  ∀ H', Same H H' → Q (.bl (decide ((b.x0 < x1 ∧ x0 < b.x1) ∧ (b.y0 < y1 ∧ y0 < b.y1) ∧ b.z0 < z1 ∧ z0 < b.z1))) H'
abbrev s_law_box_touches : Stmt := topS 71
abbrev N_law_box_touches : List Str := ["_law_box_here", "_law_x0", "_law_y0", "_law_z0", "_law_x1", "_law_y1", "_law_z1"]
theorem sc_law_box_touches : FnScope N_law_box_touches ["_law_box_here", "_law_x0", "_law_y0", "_law_z0", "_law_x1", "_law_y1", "_law_z1"] (defScope s_law_box_touches) := ⟨rfl, rfl, rfl, by decide +kernel, rfl, by decide +kernel, by decide +kernel⟩
theorem bd_law_box_touches : BindsOf ["_law_box_here", "_law_x0", "_law_y0", "_law_z0", "_law_x1", "_law_y1", "_law_z1"] "_law_box_touches" "_law_box_touches" s_law_box_touches := fun _ _ _ _ _ _ us hl => match us, hl with | [_, _, _, _, _, _, _], _ => rfl
theorem cal_law_box_touches {P : Program} {w : World} {K : PySem.W.Frag} {mg : Str → Option Value} {base : Heap} (T : Tx K mg) : Cal P w K mg base "_law_box_touches" 1 ["_law_box_here", "_law_x0", "_law_y0", "_law_z0", "_law_x1", "_law_y1", "_law_z1"] (sp_law_box_touches K) := by
  refine T.law_box_touches.cal sc_law_box_touches bd_law_box_touches (fun vs H Q E h => ?_) (fun f cdv A outer s H vs Q E hr h => ?_)
  · obtain ⟨t, b, x0, y0, z0, x1, y1, z1, rfl, hb, k⟩ := h; rfl
  · have hu := hu_of hr
    obtain ⟨t, b, x0, y0, z0, x1, y1, z1, rfl, hb, k⟩ := h
    refine ⟨_, (pss_one (ps_ret (pe_and (pe_cmpR o_lt (pe_ix (x_tup K) (pv 0) pe_int (fun _ _ => rfl)) (pv 4) (nomark _)) (pe_and (pe_cmpR op_gt1 (pe_ix (x_tup K) (pv 0) pe_int (fun _ _ => rfl)) (pv 1) (nomark _)) (pe_and (pe_cmpR o_lt (pe_ix (x_tup K) (pv 0) pe_int (fun _ _ => rfl)) (pv 5) (nomark _)) (pe_and (pe_cmpR op_gt1 (pe_ix (x_tup K) (pv 0) pe_int (fun _ _ => rfl)) (pv 2) (nomark _)) (pe_and (pe_cmpR o_lt (pe_ix (x_tup K) (pv 0) pe_int (fun _ _ => rfl)) (pv 6) (nomark _)) (pe_one (pe_cmpR op_gt1 (pe_ix (x_tup K) (pv 0) pe_int (fun _ _ => rfl)) (pv 3) (nomark _)))))))))), ?_⟩
    change (_ : TS) _ [some _, some _, some _, some _, some _, some _, some _] H
    unfold BxAt at hb
    have hk := k _ (Same.refl _)
    wtm_at "go"
    all_goals first
      | (rw [decide_eq_false (by omega)] at hk; exact hk)
      | (refine cast (congrArg (fun b => Q (V.bl b) H) (decide_eq_decide.mpr ?_)) hk; omega)
theorem do_law_box_touches {K : PySem.W.Frag} {H : Hp} {Q : VK} {t : Addr} {b : FpM.Bx} {x0 y0 z0 x1 y1 z1 : Int} (hb : BxAt H t b) (k : ∀ H', Same H H' → Q (.bl (decide ((b.x0 < x1 ∧ x0 < b.x1) ∧ (b.y0 < y1 ∧ y0 < b.y1) ∧ b.z0 < z1 ∧ z0 < b.z1))) H') : sp_law_box_touches K [.ref t, .int x0, .int y0, .int z0, .int x1, .int y1, .int z1] H Q E0 := ⟨t, b, x0, y0, z0, x1, y1, z1, rfl, hb, k⟩
def cr3 (p : FpM.Pt) (i : Nat) : Int := match i with
  | 0 => p.x
  | 1 => p.y
  | _ => p.z
theorem at_cr3 {i : Nat} (v : FpM.Pt) (h : i < 3) : atI [V.int v.x, .int v.y, .int v.z] (0 + (i : Int)) = some (.int (cr3 v i)) := by
  match i, h with
  | 0, _ => exact at0
  | 1, _ => exact at1
  | 2, _ => exact at2
def sp_law_flat (_ : PySem.W.Frag) : Sp := fun vs H Q _ => ∃ (t s : Addr) (R : FpM.Tr) (sn sd : Int), vs = [.ref t, .ref s] ∧ TriAt H t R ∧ TrSm R ∧ T2 H s sn sd ∧ (0 ≤ sn ∧ sn ≤ 1000 ∧ 0 ≤ sd ∧ sd ≤ 1000) ∧ ∀ H', Same H H' → Q (.bl (FpM.flatM R sn sd)) H'
abbrev s_law_flat : Stmt := topS 68
abbrev N_law_flat : List Str := ["_law_triangle_here", "_law_slope", "_law_a", "_law_b", "_law_c", "_law_u", "_law_k", "_law_v", "_law_n", "_law_whole"]
theorem sc_law_flat : FnScope N_law_flat ["_law_triangle_here", "_law_slope"] (defScope s_law_flat) := ⟨rfl, rfl, rfl, by decide +kernel, rfl, by decide +kernel, by decide +kernel⟩
theorem bd_law_flat : BindsOf ["_law_triangle_here", "_law_slope"] "_law_flat" "_law_flat" s_law_flat := fun _ _ _ _ _ _ us hl => match us, hl with | [_, _], _ => rfl
theorem cal_law_flat {P : Program} {w : World} {K : PySem.W.Frag} {mg : Str → Option Value} {base : Heap} (T : Tx K mg) : Cal P w K mg base "_law_flat" 1 ["_law_triangle_here", "_law_slope"] (sp_law_flat K) := by
  refine T.law_flat.cal sc_law_flat bd_law_flat (fun vs H Q E h => ?_) (fun f cdv A outer s H vs Q E hr h => ?_)
  · obtain ⟨t, s, R, sn, sd, rfl, htr, sm, hs, hb, k⟩ := h; rfl
  · have hu := hu_of hr
    obtain ⟨t, s, R, sn, sd, rfl, htr, sm, hs, hb, k⟩ := h
    refine ⟨_, (pss_cons (ps_asg (pv 0) (pg_tup rfl (pgs_cons (pg_name (i := 2) sc_law_flat.nd rfl (.inr rfl)) (pgs_cons (pg_name (i := 3) sc_law_flat.nd rfl (.inr rfl)) (pgs_cons (pg_name (i := 4) sc_law_flat.nd rfl (.inr rfl)) pgs_nil)))))
      (pss_cons (ps_setLc (i := 5) (own := [("_law_k", 6)]) rfl sc_law_flat.nd rfl rfl (sw_true rfl rfl rfl (by decide +kernel)) (pi_range1 (by rfl) T.range (pa_cons pe_int pa_nil)) (blkOk_by (own := [("_law_k", 6)]) (N := N_law_flat) (sc := defScope (topS 68)) (by decide +kernel)) (fun _ _ _ _ _ => (pg_name (i := 6) sc_law_flat.nd rfl (.inl rfl))) (fun _ _ _ _ _ => pts_nil) (fun _ _ _ _ _ => (pe_op o_sub (pe_ix (x_tup K) (pv 3) (pv 6) (fun _ _ => rfl)) (pe_ix (x_tup K) (pv 2) (pv 6) (fun _ _ => rfl)))))
      (pss_cons (ps_setLc (i := 7) (own := [("_law_k", 6)]) rfl sc_law_flat.nd rfl rfl (sw_true rfl rfl rfl (by decide +kernel)) (pi_range1 (by rfl) T.range (pa_cons pe_int pa_nil)) (blkOk_by (own := [("_law_k", 6)]) (N := N_law_flat) (sc := defScope (topS 68)) (by decide +kernel)) (fun _ _ _ _ _ => (pg_name (i := 6) sc_law_flat.nd rfl (.inl rfl))) (fun _ _ _ _ _ => pts_nil) (fun _ _ _ _ _ => (pe_op o_sub (pe_ix (x_tup K) (pv 4) (pv 6) (fun _ _ => rfl)) (pe_ix (x_tup K) (pv 2) (pv 6) (fun _ _ => rfl)))))
      (pss_cons (ps_set (i := 8) sc_law_flat.nd rfl (.inl rfl) (pe_lst (pa_cons (pe_op o_sub (pe_op o_mul (pe_ix (x_list K) (pv 5) pe_int (fun _ _ => rfl)) (pe_ix (x_list K) (pv 7) pe_int (fun _ _ => rfl))) (pe_op o_mul (pe_ix (x_list K) (pv 5) pe_int (fun _ _ => rfl)) (pe_ix (x_list K) (pv 7) pe_int (fun _ _ => rfl)))) (pa_cons (pe_op o_sub (pe_op o_mul (pe_ix (x_list K) (pv 5) pe_int (fun _ _ => rfl)) (pe_ix (x_list K) (pv 7) pe_int (fun _ _ => rfl))) (pe_op o_mul (pe_ix (x_list K) (pv 5) pe_int (fun _ _ => rfl)) (pe_ix (x_list K) (pv 7) pe_int (fun _ _ => rfl)))) (pa_cons (pe_op o_sub (pe_op o_mul (pe_ix (x_list K) (pv 5) pe_int (fun _ _ => rfl)) (pe_ix (x_list K) (pv 7) pe_int (fun _ _ => rfl))) (pe_op o_mul (pe_ix (x_list K) (pv 5) pe_int (fun _ _ => rfl)) (pe_ix (x_list K) (pv 7) pe_int (fun _ _ => rfl)))) pa_nil)))))
      (pss_cons (ps_set (i := 9) sc_law_flat.nd rfl (.inl rfl) (pe_op o_add (pe_op o_add (pe_op o_mul (pe_ix (x_list K) (pv 8) pe_int (fun _ _ => rfl)) (pe_ix (x_list K) (pv 8) pe_int (fun _ _ => rfl))) (pe_op o_mul (pe_ix (x_list K) (pv 8) pe_int (fun _ _ => rfl)) (pe_ix (x_list K) (pv 8) pe_int (fun _ _ => rfl)))) (pe_op o_mul (pe_ix (x_list K) (pv 8) pe_int (fun _ _ => rfl)) (pe_ix (x_list K) (pv 8) pe_int (fun _ _ => rfl)))))
      (pss_one (ps_ret (pe_and (pe_cmpR op_gt1 (pv 9) pe_int (nomark _)) (pe_one (pe_cmpR op_ge1 (pe_op o_mul (pe_op o_mul (pe_ix (x_list K) (pv 8) pe_int (fun _ _ => rfl)) (pe_ix (x_list K) (pv 8) pe_int (fun _ _ => rfl))) (pe_ix (x_tup K) (pv 1) pe_int (fun _ _ => rfl))) (pe_op o_mul (pe_ix (x_tup K) (pv 1) pe_int (fun _ _ => rfl)) (pv 9)) (nomark _))))))))))), ?_⟩
    change (_ : TS) _ [some _, some _, none, none, none, none, none, none, none, none] H
    obtain ⟨a, b, c, ht, ha, hb', hc⟩ := id htr
    have nb := nrm_sm sm
    wtm_at "go"
    intro D hD
    refine lc_mapR (lo := 0) (n := 3) hD (szt (by omega)) (fun i y _ => y = V.int (cr3 R.b i - cr3 R.a i)) (fun _ _ _ _ h _ => h) (fun i H4 C G hi s4 acc kC => ?_) (fun us H4 s4 hu4 hul hue => ?_)
    · change gName 6 _ [some _, some _, some _, some _, some _, none, none, none, none, none] _ _
      have x1 := at_cr3 R.b hi
      have x2 := at_cr3 R.a hi
      have hb4 : H4 b = some (.tup [.int R.b.x, .int R.b.y, .int R.b.z]) := s4 _ _ hb'
      have ha4 : H4 a = some (.tup [.int R.a.x, .int R.a.y, .int R.a.z]) := s4 _ _ ha
      wtm_at "go"
      exact kC _ _ (Same.refl _) rfl
    · have eu := three_of (f := fun i => V.int (cr3 R.b i - cr3 R.a i)) hul hue
      wtm_at "go"
      intro D2 hD2
      refine lc_mapR (lo := 0) (n := 3) hD2 (szt (by omega)) (fun i y _ => y = V.int (cr3 R.c i - cr3 R.a i)) (fun _ _ _ _ h _ => h) (fun i H5 C G hi s5 acc kC => ?_) (fun ws H5 s5 hw5 hwl hwe => ?_)
      · change gName 6 _ [some _, some _, some _, some _, some _, some _, none, none, none, none] _ _
        have x1 := at_cr3 R.c hi
        have x2 := at_cr3 R.a hi
        have hc4 : H5 c = some (.tup [.int R.c.x, .int R.c.y, .int R.c.z]) := s5 _ _ (s4 _ _ hc)
        have ha4 : H5 a = some (.tup [.int R.a.x, .int R.a.y, .int R.a.z]) := s5 _ _ (s4 _ _ ha)
        wtm_at "go"
        exact kC _ _ (Same.refl _) rfl
      · have ew := three_of (f := fun i => V.int (cr3 R.c i - cr3 R.a i)) hwl hwe
        have hu5 : H5 D = some (.lst [.int (R.b.x - R.a.x), .int (R.b.y - R.a.y), .int (R.b.z - R.a.z)]) := by rw [s5 _ _ hu4, eu]; rfl
        have hw5' : H5 D2 = some (.lst [.int (R.c.x - R.a.x), .int (R.c.y - R.a.y), .int (R.c.z - R.a.z)]) := by rw [hw5, ew]; rfl
        have s05 := s4.trans s5
        have bx : ∀ i j : Int, Sm i → Sm j → -2000 ≤ i - j ∧ i - j ≤ 2000 := fun i j h1 h2 => by unfold Sm at h1 h2; omega
        have q1 := bx _ _ sm.bx sm.ax
        have q2 := bx _ _ sm.by_ sm.ay
        have q3 := bx _ _ sm.bz sm.az
        have q4 := bx _ _ sm.cx sm.ax
        have q5 := bx _ _ sm.cy sm.ay
        have q6 := bx _ _ sm.cz sm.az
        have nb2 := nb
        simp only [FpM.nrm] at nb2
        wtm_at "go"
        · rename_i hpos
          rw [show FpM.flatM R sn sd = decide (sn * ((FpM.nrm R).x * (FpM.nrm R).x + (FpM.nrm R).y * (FpM.nrm R).y + (FpM.nrm R).z * (FpM.nrm R).z) ≤ (FpM.nrm R).y * (FpM.nrm R).y * sd) by
            unfold FpM.flatM
            exact decide_eq_decide.mpr ⟨fun z => z.2, fun z => ⟨hpos, z⟩⟩] at k
          refine k _ ?_
          exact s05.trans (by wtm_at "sm")
        · rename_i hneg
          rw [show FpM.flatM R sn sd = false from decide_eq_false (fun z => hneg z.1)] at k
          refine k _ ?_
          exact s05.trans (by wtm_at "sm")
theorem do_law_flat {K : PySem.W.Frag} {H : Hp} {Q : VK} {t s : Addr} {R : FpM.Tr} {sn sd : Int} (htr : TriAt H t R) (sm : TrSm R) (hs : T2 H s sn sd) (hb : 0 ≤ sn ∧ sn ≤ 1000 ∧ 0 ≤ sd ∧ sd ≤ 1000) (k : ∀ H', Same H H' → Q (.bl (FpM.flatM R sn sd)) H') : sp_law_flat K [.ref t, .ref s] H Q E0 := ⟨t, s, R, sn, sd, rfl, htr, sm, hs, hb, k⟩
end
section
theorem over_pos {R : FpM.Tr} {x0 z0 x1 z1 : Int} : ∀ v ∈ FpM.overM R x0 z0 x1 z1, 0 < v.w := fun v hv => by
  obtain ⟨l, o, rfl⟩ := FpM.over_sound hv
  exact o.w
def sp_law_extent (_ : PySem.W.Frag) : Sp := fun vs H Q _ => ∃ (t : Addr) (R : FpM.Tr) (x0 z0 x1 z1 : Int), vs = [.ref t, .int x0, .int z0, .int x1, .int z1] ∧ TriAt H t R ∧ TrSm R ∧ (Bt_ 10 x0 ∧ Bt_ 10 z0 ∧ Bt_ 10 x1 ∧ Bt_ 10 z1) ∧
  (FpM.overM R x0 z0 x1 z1 = [] → ∀ H', Same H H' → Q .non H') ∧
  ∀ (r p q : Addr) (a b : Int) (v : FpM.V4) H', FpM.overM R x0 z0 x1 z1 ≠ [] → Same H H' → H' r = some (.lst [.ref p, .ref q]) → T2 H' q v.y v.w → FpM.HighOf (FpM.overM R x0 z0 x1 z1) v → B4 340 v → Q (.ref r) H'
abbrev s_law_extent : Stmt := topS 67
abbrev N_law_extent : List Str := ["_law_triangle_here", "_law_x0", "_law_z0", "_law_x1", "_law_z1", "_law_shape", "_law_low", "_law_high", "_law_point"]
theorem sc_law_extent : FnScope N_law_extent ["_law_triangle_here", "_law_x0", "_law_z0", "_law_x1", "_law_z1"] (defScope s_law_extent) := ⟨rfl, rfl, rfl, by decide +kernel, rfl, by decide +kernel, by decide +kernel⟩
theorem bd_law_extent : BindsOf ["_law_triangle_here", "_law_x0", "_law_z0", "_law_x1", "_law_z1"] "_law_extent" "_law_extent" s_law_extent := fun _ _ _ _ _ _ us hl => match us, hl with | [_, _, _, _, _], _ => rfl
theorem cal_law_extent {P : Program} {w : World} {K : PySem.W.Frag} {mg : Str → Option Value} {base : Heap} (T : Tx K mg) : Cal P w K mg base "_law_extent" 5 ["_law_triangle_here", "_law_x0", "_law_z0", "_law_x1", "_law_z1"] (sp_law_extent K) := by
  refine T.law_extent.cal sc_law_extent bd_law_extent (fun vs H Q E h => ?_) (fun f cdv A outer s H vs Q E hr h => ?_)
  · obtain ⟨t, R, x0, z0, x1, z1, rfl, htr, sm, bb, k1, k2⟩ := h; rfl
  · have hu := hu_of hr
    obtain ⟨t, R, x0, z0, x1, z1, rfl, htr, sm, bb, k1, k2⟩ := h
    refine ⟨_, (pss_cons (ps_set (i := 5) sc_law_extent.nd rfl (.inl rfl) (pe_callC (cal_law_over (K := K) T) (hr.mono (by decide)) (by rfl) (pa_cons (pv 0) (pa_cons (pv 1) (pa_cons (pv 2) (pa_cons (pv 3) (pa_cons (pv 4) pa_nil)))))))
      (pss_cons (ps_if (pt_cmpR op_eq (pe_callB (c_len K) (by rfl) T.len PySem.boot_len (pa_cons (pv 5) pa_nil)) pe_int (nomark _)) (pss_one (ps_ret pe_non)) pss_nil)
      (pss_cons (ps_set (i := 6) sc_law_extent.nd rfl (.inl rfl) (pe_ix (x_list K) (pv 5) pe_int (fun _ _ => rfl)))
      (pss_cons (ps_set (i := 7) sc_law_extent.nd rfl (.inl rfl) (pe_ix (x_list K) (pv 5) pe_int (fun _ _ => rfl)))
      (pss_cons (ps_for PassesOwn.never rfl (pi_list (pv 5)) (pg_name (i := 8) sc_law_extent.nd rfl (.inl rfl)) (Evl.pss_cut (ps_if (pt_cmpR o_lt (pe_op o_mulW (pe_ix (x_tup K) (pv 8) pe_int (fun _ _ => rfl)) (pe_ix (x_tup K) (pv 6) pe_int (fun _ _ => rfl))) (pe_op o_mulW (pe_ix (x_tup K) (pv 6) pe_int (fun _ _ => rfl)) (pe_ix (x_tup K) (pv 8) pe_int (fun _ _ => rfl))) (nomark _)) (pss_one (ps_set (i := 6) sc_law_extent.nd rfl (.inl rfl) (pv 8))) pss_nil)
      (pss_one (ps_if (pt_cmpR op_gt1 (pe_op o_mulW (pe_ix (x_tup K) (pv 8) pe_int (fun _ _ => rfl)) (pe_ix (x_tup K) (pv 7) pe_int (fun _ _ => rfl))) (pe_op o_mulW (pe_ix (x_tup K) (pv 7) pe_int (fun _ _ => rfl)) (pe_ix (x_tup K) (pv 8) pe_int (fun _ _ => rfl))) (nomark _)) (pss_one (ps_set (i := 7) sc_law_extent.nd rfl (.inl rfl) (pv 8))) pss_nil))))
      (pss_one (ps_ret (pe_lst (pa_cons (pe_tup (pa_cons (pe_ix (x_tup K) (pv 6) pe_int (fun _ _ => rfl)) (pa_cons (pe_ix (x_tup K) (pv 6) pe_int (fun _ _ => rfl)) pa_nil))) (pa_cons (pe_tup (pa_cons (pe_ix (x_tup K) (pv 7) pe_int (fun _ _ => rfl)) (pa_cons (pe_ix (x_tup K) (pv 7) pe_int (fun _ _ => rfl)) pa_nil))) pa_nil)))))))))), ?_⟩
    change (_ : TS) _ [some _, some _, some _, some _, some _, none, none, none, none] H
    wtm_at "go"
    refine do_law_over htr sm bb fun l H1 s1 sh => ?_
    obtain ⟨ws, hl, a2, lw, bs⟩ := sh.ex
    have a2 : A2 (V4V H1) ws (FpM.overM R x0 z0 x1 z1) := a2
    have bs : ∀ v ∈ FpM.overM R x0 z0 x1 z1, B4 340 v := bs
    have wp := over_pos (R := R) (x0 := x0) (z0 := z0) (x1 := x1) (z1 := z1)
    generalize FpM.overM R x0 z0 x1 z1 = s at k1 k2 a2 bs wp
    have lw : ws.length ≤ 1000 := Nat.le_trans lw (by decide)
    cases a2 with
    | nil =>
      wtm_at "go"
      refine i_lenL hl ?_
      wtm_at "go"
      · exact k1 rfl _ s1
      · exact absurd (show ((([] : List V).length : Nat) : Int) = 0 from rfl) (by assumption)
    | @cons a0 v0 as vs' r0 rest =>
      have A : A2 (V4V H1) (a0 :: as) (v0 :: vs') := .cons r0 rest
      obtain ⟨p0, rfl, hp0⟩ := r0
      wtm_at "go"
      refine i_lenL hl ?_
      wtm_at "go"
      · exfalso
        have : (((V.ref p0 :: as).length : Nat) : Int) = 0 := by assumption
        simp at this
        omega
      · refine for_list (xs := .ref p0 :: as) (fun n σ H' => (∃ pl ph y8, σ = [some (.ref t), some (.int x0), some (.int z0), some (.int x1), some (.int z1), some (.ref l), some (.ref pl), some (.ref ph), y8] ∧ (∃ lo, V4At H1 pl lo ∧ lo ∈ v0 :: vs') ∧
            ∃ hi, V4At H1 ph hi ∧ hi ∈ v0 :: vs' ∧ ∀ u ∈ (v0 :: vs').take n, u.y * hi.w ≤ hi.y * u.w) ∧ H1 = H')
          ⟨⟨p0, p0, _, rfl, ⟨v0, hp0, List.mem_cons_self⟩, v0, hp0, List.mem_cons_self, fun u hu => absurd hu (by simp)⟩, rfl⟩ (fun n σ H' _ h' => by obtain ⟨_, rfl⟩ := h'; exact SqL.of hl) (fun n x σ H2 hx h2 => ?_) (fun σ H2 h2 => ?_)
        · obtain ⟨⟨pl, ph, y8, rfl, ⟨lo, hlo, mlo⟩, hi, hhi, mhi, hm⟩, rfl⟩ := h2
          obtain ⟨u, hu, q, rfl, hq⟩ := A.get hx
          have mu := List.mem_of_getElem? hu
          have bu := bs u mu
          have blo := bs lo mlo
          have bhi := bs hi mhi
          unfold V4At at hlo hhi hq
          wtm_at "go"
          refine i_cut (fun σ' H' => (∃ pl', σ' = [some (.ref t), some (.int x0), some (.int z0), some (.int x1), some (.int z1), some (.ref l), some (.ref pl'), some (.ref ph), some (.ref q)] ∧ ∃ lo, V4At H1 pl' lo ∧ lo ∈ v0 :: vs') ∧ H1 = H') ?_ ?_
          · wtm_at "go"
            refine i_mulW (bu.2.1.wide blo.2.2.2 (by decide)) ?_
            wtm_at "go"
            refine i_mulW (blo.2.1.wide bu.2.2.2 (by decide)) ?_
            wtm_at "go"
            · exact ⟨⟨q, rfl, u, hq, mu⟩, rfl⟩
            · exact ⟨⟨pl, rfl, lo, hlo, mlo⟩, rfl⟩
          · rintro σ' H' ⟨⟨pl', rfl, lo', hlo', mlo'⟩, rfl⟩
            have nx := FpM.HighOf.next wp (fun v hv => List.mem_of_mem_take hv) mhi mu hm
            rw [← take_snoc hu] at nx
            wtm_at "go"
            refine i_mulW (bu.2.1.wide bhi.2.2.2 (by decide)) ?_
            wtm_at "go"
            refine i_mulW (bhi.2.1.wide bu.2.2.2 (by decide)) ?_
            wtm_at "go"
            · exact ⟨⟨pl', q, _, rfl, ⟨lo', hlo', mlo'⟩, u, hq, mu, nx.1 (by assumption)⟩, rfl⟩
            · exact ⟨⟨pl', ph, _, rfl, ⟨lo', hlo', mlo'⟩, hi, hhi, mhi, nx.2 (by assumption)⟩, rfl⟩
        · obtain ⟨⟨pl, ph, y8, rfl, ⟨lo, hlo, mlo⟩, hi, hhi, mhi, hm⟩, rfl⟩ := h2
          have hm2 : ∀ u ∈ v0 :: vs', u.y * hi.w ≤ hi.y * u.w := by
            have lr := rest.length
            rw [List.take_of_length_le (by simp; omega)] at hm
            exact hm
          unfold V4At at hlo hhi
          wtm_at "go"
          rename_i c1 hc1 c2 hc2 r hr
          exact k2 r c1 c2 lo.y lo.w hi _ (by simp) (s1.trans (by wtm_at "sm")) upd_same (by wtm_at "hp") ⟨mhi, hm2⟩ (bs hi mhi)
theorem do_law_extent {K : PySem.W.Frag} {H : Hp} {Q : VK} {t : Addr} {R : FpM.Tr} {x0 z0 x1 z1 : Int} (htr : TriAt H t R) (sm : TrSm R) (bb : Bt_ 10 x0 ∧ Bt_ 10 z0 ∧ Bt_ 10 x1 ∧ Bt_ 10 z1) (k1 : FpM.overM R x0 z0 x1 z1 = [] → ∀ H', Same H H' → Q .non H')
    (k2 : ∀ (r p q : Addr) (a b : Int) (v : FpM.V4) H', FpM.overM R x0 z0 x1 z1 ≠ [] → Same H H' → H' r = some (.lst [.ref p, .ref q]) → T2 H' q v.y v.w → FpM.HighOf (FpM.overM R x0 z0 x1 z1) v → B4 340 v → Q (.ref r) H') :
    sp_law_extent K [.ref t, .int x0, .int z0, .int x1, .int z1] H Q E0 := ⟨t, R, x0, z0, x1, z1, rfl, htr, sm, bb, k1, k2⟩
end
section
theorem pickB_none : ∀ (xs : List V) (bs : List Bool), xs.length = bs.length → (pickB xs bs).length ≠ 0 → ∃ i : Nat, bs[i]? = some true
  | [], [], _, h => absurd rfl h
  | [], _ :: _, h, _ => by simp at h
  | _ :: _, [], h, _ => by simp at h
  | x :: xs, b :: bs, h, k => by
    cases b with
    | true => exact ⟨0, rfl⟩
    | false =>
      obtain ⟨i, hi⟩ := pickB_none xs bs (by simpa using h) (by simpa [pickB] using k)
      exact ⟨i + 1, by simpa using hi⟩
theorem pickB_ex {xs : List V} {s : List FpM.V4} {p : FpM.V4 → Bool} (hl : xs.length = s.length) (k : (pickB xs (s.map p)).length ≠ 0) : ∃ v ∈ s, p v = true := by
  obtain ⟨i, hi⟩ := pickB_none _ _ (by simpa using hl) k
  rw [List.getElem?_map] at hi
  cases e : s[i]? with
  | none => rw [e] at hi; cases hi
  | some v =>
    rw [e] at hi
    exact ⟨v, List.mem_of_getElem? e, Option.some.inj hi⟩
end
section
def dsT (x0 y0 z0 x1 y1 z1 : Int) : List (Nat × Int × Int) := [(0, x0, x1), (1, y0, y1), (2, z0, z1)]
def BothS (s : List FpM.V4) (d : Nat × Int × Int) : Prop := (∃ v ∈ s, d.2.1 * v.w < FpM.ax4 d.1 v) ∧ ∃ v ∈ s, FpM.ax4 d.1 v < d.2.2 * v.w
def sp_law_touches (_ : PySem.W.Frag) : Sp := fun vs H Q _ => ∃ (t : Addr) (R : FpM.Tr) (x0 y0 z0 x1 y1 z1 : Int), vs = [.ref t, .int x0, .int y0, .int z0, .int x1, .int y1, .int z1] ∧ TriAt H t R ∧ TrSm R ∧ (Bt_ 10 x0 ∧ Bt_ 10 y0 ∧ Bt_ 10 z0 ∧ Bt_ 10 x1 ∧ Bt_ 10 y1 ∧ Bt_ 10 z1) ∧
  ∀ (b : Bool) H', Same H H' → (b = true → ∃ l, FpM.Inside R x0 y0 z0 x1 y1 z1 l) → Q (.bl b) H'
abbrev s_law_touches : Stmt := topS 70
abbrev N_law_touches : List Str := ["_law_triangle_here", "_law_x0", "_law_y0", "_law_z0", "_law_x1", "_law_y1", "_law_z1", "_law_shape", "_law_axis", "_law_low", "_law_high", "_law_over_here", "_law_point", "_law_under"]
theorem sc_law_touches : FnScope N_law_touches ["_law_triangle_here", "_law_x0", "_law_y0", "_law_z0", "_law_x1", "_law_y1", "_law_z1"] (defScope s_law_touches) := ⟨rfl, rfl, rfl, by decide +kernel, rfl, by decide +kernel, by decide +kernel⟩
theorem bd_law_touches : BindsOf ["_law_triangle_here", "_law_x0", "_law_y0", "_law_z0", "_law_x1", "_law_y1", "_law_z1"] "_law_touches" "_law_touches" s_law_touches := fun _ _ _ _ _ _ us hl => match us, hl with | [_, _, _, _, _, _, _], _ => rfl
theorem cal_law_touches {P : Program} {w : World} {K : PySem.W.Frag} {mg : Str → Option Value} {base : Heap} (T : Tx K mg) : Cal P w K mg base "_law_touches" 5 ["_law_triangle_here", "_law_x0", "_law_y0", "_law_z0", "_law_x1", "_law_y1", "_law_z1"] (sp_law_touches K) := by
  refine T.law_touches.cal sc_law_touches bd_law_touches (fun vs H Q E h => ?_) (fun f cdv A outer s H vs Q E hr h => ?_)
  · obtain ⟨t, R, x0, y0, z0, x1, y1, z1, rfl, htr, sm, bb, k⟩ := h; rfl
  · have hu := hu_of hr
    obtain ⟨t, R, x0, y0, z0, x1, y1, z1, rfl, htr, sm, bb, k⟩ := h
    refine ⟨_, (pss_cons (ps_set (i := 7) sc_law_touches.nd rfl (.inl rfl) (pe_callC (cal_law_boxed (K := K) T) (hr.mono (by decide)) (by rfl) (pa_cons (pv 0) (pa_cons (pv 1) (pa_cons (pv 2) (pa_cons (pv 3) (pa_cons (pv 4) (pa_cons (pv 5) (pa_cons (pv 6) pa_nil)))))))))
      (pss_cons (ps_if (pt_cmpR op_eq (pe_callB (c_len K) (by rfl) T.len PySem.boot_len (pa_cons (pv 7) pa_nil)) pe_int (nomark _)) (pss_one (ps_ret pe_bl)) pss_nil)
      (pss_cons (ps_for PassesOwn.never rfl (pi_list (pe_lst (pa_cons (pe_tup (pa_cons pe_int (pa_cons (pv 1) (pa_cons (pv 4) pa_nil)))) (pa_cons (pe_tup (pa_cons pe_int (pa_cons (pv 2) (pa_cons (pv 5) pa_nil)))) (pa_cons (pe_tup (pa_cons pe_int (pa_cons (pv 3) (pa_cons (pv 6) pa_nil)))) pa_nil))))) (pg_tup rfl (pgs_cons (pg_name (i := 8) sc_law_touches.nd rfl (.inr rfl)) (pgs_cons (pg_name (i := 9) sc_law_touches.nd rfl (.inr rfl)) (pgs_cons (pg_name (i := 10) sc_law_touches.nd rfl (.inr rfl)) pgs_nil)))) (pss_cons (ps_setLc (i := 11) (own := [("_law_point", 12)]) rfl sc_law_touches.nd rfl rfl (sw_true rfl rfl rfl (by decide +kernel)) (pi_list (pv 7)) (blkOk_by (own := [("_law_point", 12)]) (N := N_law_touches) (sc := defScope (topS 70)) (by decide +kernel)) (fun _ _ _ _ _ => (pg_name (i := 12) sc_law_touches.nd rfl (.inl rfl))) (fun _ _ _ _ _ => (pts_one (pt_cmpR op_gt1 (pe_ix (x_tup K) (pv 12) (pv 8) (fun _ _ => rfl)) (pe_op o_mulW (pv 9) (pe_ix (x_tup K) (pv 12) pe_int (fun _ _ => rfl))) (nomark _)))) (fun _ _ _ _ _ => (pv 12)))
      (pss_cons (ps_setLc (i := 13) (own := [("_law_point", 12)]) rfl sc_law_touches.nd rfl rfl (sw_true rfl rfl rfl (by decide +kernel)) (pi_list (pv 7)) (blkOk_by (own := [("_law_point", 12)]) (N := N_law_touches) (sc := defScope (topS 70)) (by decide +kernel)) (fun _ _ _ _ _ => (pg_name (i := 12) sc_law_touches.nd rfl (.inl rfl))) (fun _ _ _ _ _ => (pts_one (pt_cmpR o_lt (pe_ix (x_tup K) (pv 12) (pv 8) (fun _ _ => rfl)) (pe_op o_mulW (pv 10) (pe_ix (x_tup K) (pv 12) pe_int (fun _ _ => rfl))) (nomark _)))) (fun _ _ _ _ _ => (pv 12)))
      (pss_one (ps_if (PW.pt (pw_or (pt_cmpR op_eq (pe_callB (c_len K) (by rfl) T.len PySem.boot_len (pa_cons (pv 11) pa_nil)) pe_int (nomark _)) (pw_or1 (pt_cmpR op_eq (pe_callB (c_len K) (by rfl) T.len PySem.boot_len (pa_cons (pv 13) pa_nil)) pe_int (nomark _))))) (pss_one (ps_ret pe_bl)) pss_nil)))))
      (pss_one (ps_ret pe_bl))))), ?_⟩
    change (_ : TS) _ [some _, some _, some _, some _, some _, some _, some _, none, none, none, none, none, none, none] H
    wtm_at "go"
    refine do_law_boxed htr sm bb fun l H1 s1 sh => ?_
    obtain ⟨ws, hl, a2, lw, bs⟩ := sh.ex
    have a2 : A2 (V4V H1) ws (FpM.boxedM R x0 y0 z0 x1 y1 z1) := a2
    have bs : ∀ v ∈ FpM.boxedM R x0 y0 z0 x1 y1 z1, B4 1396 v := bs
    have ti := FpM.touch_inside (t := R) (x0 := x0) (y0 := y0) (z0 := z0) (x1 := x1) (y1 := y1) (z1 := z1)
    generalize FpM.boxedM R x0 y0 z0 x1 y1 z1 = s at a2 bs ti
    have lw : ws.length ≤ 1000 := Nat.le_trans lw (by decide)
    have ls := a2.length
    wtm_at "go"
    refine i_lenL hl ?_
    wtm_at "go"
    · exact k false _ s1 (fun z => nomatch z)
    · rename_i hne p1 hp1 p2 hp2 p3 hp3 L hL
      have hs : s ≠ [] := fun z => hne (by rw [ls, z]; rfl)
      have s5 : Same H1 (upd (upd (upd (upd H1 p1 (.tup [.int 0, .int x0, .int x1])) p2 (.tup [.int 1, .int y0, .int y1])) p3 (.tup [.int 2, .int z0, .int z1])) L (.lst [.ref p1, .ref p2, .ref p3])) := by wtm_at "sm"
      have hds : A2 (DV (upd (upd (upd (upd H1 p1 (.tup [.int 0, .int x0, .int x1])) p2 (.tup [.int 1, .int y0, .int y1])) p3 (.tup [.int 2, .int z0, .int z1])) L (.lst [.ref p1, .ref p2, .ref p3]))) [.ref p1, .ref p2, .ref p3] (dsT x0 y0 z0 x1 y1 z1) :=
        .cons ⟨p1, rfl, by wtm_at "hp"⟩ (.cons ⟨p2, rfl, by wtm_at "hp"⟩ (.cons ⟨p3, rfl, by wtm_at "hp"⟩ .nil))
      have hL5 : (upd (upd (upd (upd H1 p1 (.tup [.int 0, .int x0, .int x1])) p2 (.tup [.int 1, .int y0, .int y1])) p3 (.tup [.int 2, .int z0, .int z1])) L (.lst [.ref p1, .ref p2, .ref p3])) L = some (.lst [.ref p1, .ref p2, .ref p3]) := upd_same
      generalize upd (upd (upd (upd H1 p1 (.tup [.int 0, .int x0, .int x1])) p2 (.tup [.int 1, .int y0, .int y1])) p3 (.tup [.int 2, .int z0, .int z1])) L (.lst [.ref p1, .ref p2, .ref p3]) = H5 at s5 hds hL5
      have oks : ∀ d ∈ dsT x0 y0 z0 x1 y1 z1, d.1 < 3 ∧ Bt_ 10 d.2.1 ∧ Bt_ 10 d.2.2 := by
        intro d hd
        unfold dsT at hd
        simp only [List.mem_cons, List.not_mem_nil, or_false] at hd
        rcases hd with rfl | rfl | rfl
        · exact ⟨by simp, bb.1, bb.2.2.2.1⟩
        · exact ⟨by simp, bb.2.1, bb.2.2.2.2.1⟩
        · exact ⟨by simp, bb.2.2.1, bb.2.2.2.2.2⟩
      refine for_list (xs := [.ref p1, .ref p2, .ref p3]) (fun n σ H' => (∃ u8 u9 u10 u11 u12 u13, σ = [some (.ref t), some (.int x0), some (.int y0), some (.int z0), some (.int x1), some (.int y1), some (.int z1), some (.ref l), u8, u9, u10, u11, u12, u13]) ∧ Same H5 H' ∧ ∀ d ∈ (dsT x0 y0 z0 x1 y1 z1).take n, BothS s d)
        ⟨⟨_, _, _, _, _, _, rfl⟩, Same.refl _, fun d hd => absurd hd (by simp)⟩ (fun n σ H' _ h' => SqL.of (h'.2.1 _ _ hL5)) (fun n x σ H6 hx h6 => ?_) (fun σ H6 h6 => ?_)
      · obtain ⟨⟨u8, u9, u10, u11, u12, u13, rfl⟩, s6, hb⟩ := h6
        obtain ⟨⟨ax, lo, hi⟩, hd, q, rfl, hq⟩ := hds.get hx
        have ok := oks _ (List.mem_of_getElem? hd)
        simp only at ok hq
        have hq6 := s6 _ _ hq
        have s16 := s5.trans s6
        have hl6 := s16 _ _ hl
        have a6 : A2 (V4V H6) ws s := a2.mono fun v o h => h.tt (Tk.of s16)
        wtm_at "go"
        intro D hD
        refine lc_filL (s.map fun v => decide (lo * v.w < FpM.ax4 ax v)) hl6 (by rw [List.length_map, ls]) hD (szt (by omega)) (fun i x b H7 C G hx hb s7 kT kF => ?_) (fun H7 s7 hz7 => ?_)
        · obtain ⟨v, hv, a, rfl, ha⟩ := a6.get hx
          rw [List.getElem?_map, hv] at hb
          have hb : decide (lo * v.w < FpM.ax4 ax v) = b := Option.some.inj hb
          subst hb
          have bv := bs v (List.mem_of_getElem? hv)
          have ha7 : H7 a = some (.tup [.int v.x, .int v.y, .int v.z, .int v.w]) := s7 _ _ ha
          have hxv := at_ax v ok.1
          change gName 12 _ [some _, some _, some _, some _, some _, some _, some _, some _, some _, some _, some _, _, none, _] _ _
          wtm_at "go"
          refine i_mulW (ok.2.1.wide bv.2.2.2 (by decide)) ?_
          wtm_at "go"
          · exact kT (decide_eq_true (by assumption)) _ (Same.refl _)
          · exact kF (decide_eq_false (by assumption)) _ (Same.refl _)
        · wtm_at "go"
          intro D2 hD2
          have hl7 := s7 _ _ hl6
          have a7 : A2 (V4V H7) ws s := a6.mono fun v o h => h.tt (Tk.of s7)
          refine lc_filL (s.map fun v => decide (FpM.ax4 ax v < hi * v.w)) hl7 (by rw [List.length_map, ls]) hD2 (szt (by omega)) (fun i x b H8 C G hx hb s8 kT kF => ?_) (fun H8 s8 hz8 => ?_)
          · obtain ⟨v, hv, a, rfl, ha⟩ := a7.get hx
            rw [List.getElem?_map, hv] at hb
            have hb : decide (FpM.ax4 ax v < hi * v.w) = b := Option.some.inj hb
            subst hb
            have bv := bs v (List.mem_of_getElem? hv)
            have ha8 : H8 a = some (.tup [.int v.x, .int v.y, .int v.z, .int v.w]) := s8 _ _ ha
            have hxv := at_ax v ok.1
            change gName 12 _ [some _, some _, some _, some _, some _, some _, some _, some _, some _, some _, some _, _, none, _] _ _
            wtm_at "go"
            refine i_mulW (ok.2.2.wide bv.2.2.2 (by decide)) ?_
            wtm_at "go"
            · exact kT (decide_eq_true (by assumption)) _ (Same.refl _)
            · exact kF (decide_eq_false (by assumption)) _ (Same.refl _)
          · have s18 := s16.trans (s7.trans s8)
            have hz78 := s8 _ _ hz7
            have no : ∀ H', Same H8 H' → Q (.bl false) H' := fun H' e => k false _ (s1.trans (s18.trans e)) (fun z => nomatch z)
            wtm_at "go"
            refine i_lenL hz78 ?_
            wtm_at "go"
            · exact no _ (Same.refl _)
            · refine i_lenL hz8 ?_
              wtm_at "go"
              · exact no _ (Same.refl _)
              · rename_i n1 n2
                obtain ⟨v1, m1, e1⟩ := pickB_ex ls (fun z => n1 (by rw [z]; rfl))
                obtain ⟨v2, m2, e2⟩ := pickB_ex ls (fun z => n2 (by rw [z]; rfl))
                refine ⟨⟨_, _, _, _, _, _, rfl⟩, s6.trans (s7.trans s8), fun d' hd' => ?_⟩
                rw [take_snoc hd] at hd'
                rcases List.mem_append.mp hd' with h | h
                · exact hb d' h
                · rw [List.mem_singleton.mp h]
                  exact ⟨⟨v1, m1, of_decide_eq_true e1⟩, v2, m2, of_decide_eq_true e2⟩
      · obtain ⟨⟨u8, u9, u10, u11, u12, u13, rfl⟩, s6, hb⟩ := h6
        wtm_at "go"
        have hb : ∀ d ∈ dsT x0 y0 z0 x1 y1 z1, BothS s d := hb
        exact k true _ (s1.trans (s5.trans s6)) fun _ => ti hs (hb (0, x0, x1) (by simp [dsT])) (hb (1, y0, y1) (by simp [dsT])) (hb (2, z0, z1) (by simp [dsT]))
theorem do_law_touches {K : PySem.W.Frag} {H : Hp} {Q : VK} {t : Addr} {R : FpM.Tr} {x0 y0 z0 x1 y1 z1 : Int} (htr : TriAt H t R) (sm : TrSm R) (bb : Bt_ 10 x0 ∧ Bt_ 10 y0 ∧ Bt_ 10 z0 ∧ Bt_ 10 x1 ∧ Bt_ 10 y1 ∧ Bt_ 10 z1)
    (k : ∀ (b : Bool) H', Same H H' → (b = true → ∃ l, FpM.Inside R x0 y0 z0 x1 y1 z1 l) → Q (.bl b) H') : sp_law_touches K [.ref t, .int x0, .int y0, .int z0, .int x1, .int y1, .int z1] H Q E0 := ⟨t, R, x0, y0, z0, x1, y1, z1, rfl, htr, sm, bb, k⟩
end
section
theorem bt_of {i : Int} (h : -1023 ≤ i ∧ i ≤ 1023) : Bt_ 10 i := by unfold Bt_; omega
end
section
/-- a soup in the heap -/
structure SpAt (H : Hp) (a : Addr) (rs : List FpM.Tr) : Prop where
  ex : ∃ ys : List V, H a = some (.lst ys) ∧ A2 (TriV H) ys rs ∧ ys.length ≤ 100
  sm : ∀ R ∈ rs, TrSm R
theorem SpAt.same {H H' : Hp} {a : Addr} {rs : List FpM.Tr} (h : SpAt H a rs) (s : Same H H') : SpAt H' a rs := by
  obtain ⟨ys, h1, h2, h3⟩ := h.ex
  exact ⟨⟨ys, s _ _ h1, h2.mono fun v o h => h.tt (Tk.of s), h3⟩, h.sm⟩
/-- boxes in the heap -/
structure BsAt (H : Hp) (a : Addr) (bs : List FpM.Bx) : Prop where
  ex : ∃ ys : List V, H a = some (.lst ys) ∧ A2 (BxV H) ys bs ∧ ys.length ≤ 100
theorem BsAt.same {H H' : Hp} {a : Addr} {bs : List FpM.Bx} (h : BsAt H a bs) (s : Same H H') : BsAt H' a bs := by
  obtain ⟨ys, h1, h2, h3⟩ := h.ex
  exact ⟨⟨ys, s _ _ h1, h2.mono fun v o h => h.tt (Tk.of s), h3⟩⟩
def sp_law_safe (K : PySem.W.Frag) : Sp := fun vs H Q _ => ∃ (s so bo : Addr) (M : FpM.Me) (tl x z L : Int) (rs : List FpM.Tr) (bs : List FpM.Bx), vs = [.ref s, .ref so, .ref bo, .int x, .int z, .int L] ∧ SeAt K H s M tl ∧ SpAt H so rs ∧ BsAt H bo bs ∧
  ((0 ≤ x ∧ x ≤ 100) ∧ (0 ≤ z ∧ z ≤ 100) ∧ -900 ≤ L * M.level ∧ L * M.level ≤ 920) ∧
  (∀ R ∈ rs, ∀ l, 0 < M.width → FpM.Inside R (x - M.width) ((L + M.rise) * M.level) (z - M.width) (x + M.width) ((L + M.tall) * M.level) (z + M.width) l → False) ∧
  (∀ b ∈ bs, 0 < M.width → FpM.TouchB b (x - M.width) ((L + M.rise) * M.level) (z - M.width) (x + M.width) ((L + M.tall) * M.level) (z + M.width) → False) ∧
  ∀ H', Same H H' → Q (.bl true) H'
abbrev s_law_safe : Stmt := topS 72
abbrev N_law_safe : List Str := ["_law_settings_here", "_law_soup_here", "_law_boxes_here", "_law_x", "_law_z", "_law_level", "_law_y0", "_law_y1", "_law_w", "_law_triangle_here", "_law_box_here"]
theorem sc_law_safe : FnScope N_law_safe ["_law_settings_here", "_law_soup_here", "_law_boxes_here", "_law_x", "_law_z", "_law_level"] (defScope s_law_safe) := ⟨rfl, rfl, rfl, by decide +kernel, rfl, by decide +kernel, by decide +kernel⟩
theorem bd_law_safe : BindsOf ["_law_settings_here", "_law_soup_here", "_law_boxes_here", "_law_x", "_law_z", "_law_level"] "_law_safe" "_law_safe" s_law_safe := fun _ _ _ _ _ _ us hl => match us, hl with | [_, _, _, _, _, _], _ => rfl
theorem cal_law_safe {P : Program} {w : World} {K : PySem.W.Frag} {mg : Str → Option Value} {base : Heap} (T : Tx K mg) : Cal P w K mg base "_law_safe" 6 ["_law_settings_here", "_law_soup_here", "_law_boxes_here", "_law_x", "_law_z", "_law_level"] (sp_law_safe K) := by
  refine T.law_safe.cal sc_law_safe bd_law_safe (fun vs H Q E h => ?_) (fun f cdv A outer s H vs Q E hr h => ?_)
  · obtain ⟨s, so, bo, M, tl, x, z, L, rs, bs, rfl, hse, hso, hbo, bd, kt, kb, k⟩ := h; rfl
  · have hu := hu_of hr
    obtain ⟨s, so, bo, M, tl, x, z, L, rs, bs, rfl, hse, hso, hbo, bd, kt, kb, k⟩ := h
    refine ⟨_, (pss_cons (ps_set (i := 6) sc_law_safe.nd rfl (.inl rfl) (pe_op o_mul (pe_op o_add (pv 5) (pe_fld (pv 0) rfl)) (pe_fld (pv 0) rfl)))
      (pss_cons (ps_set (i := 7) sc_law_safe.nd rfl (.inl rfl) (pe_op o_mul (pe_op o_add (pv 5) (pe_fld (pv 0) rfl)) (pe_fld (pv 0) rfl)))
      (pss_cons (ps_set (i := 8) sc_law_safe.nd rfl (.inl rfl) (pe_fld (pv 0) rfl))
      (pss_cons (ps_if (pt_cmpR op_eq (pv 8) pe_int (nomark _)) (pss_one (ps_ret pe_bl)) pss_nil)
      (pss_cons (ps_for PassesOwn.never rfl (pi_list (pv 1)) (pg_name (i := 9) sc_law_safe.nd rfl (.inl rfl)) (pss_one (ps_if (pt_val (pe_callC (cal_law_touches (K := K) T) (hr.mono (by decide)) (by rfl) (pa_cons (pv 9) (pa_cons (pe_op o_sub (pv 3) (pv 8)) (pa_cons (pv 6) (pa_cons (pe_op o_sub (pv 4) (pv 8)) (pa_cons (pe_op o_add (pv 3) (pv 8)) (pa_cons (pv 7) (pa_cons (pe_op o_add (pv 4) (pv 8)) pa_nil))))))))) (pss_one (ps_ret pe_bl)) pss_nil)))
      (pss_cons (ps_for PassesOwn.never rfl (pi_list (pv 2)) (pg_name (i := 10) sc_law_safe.nd rfl (.inl rfl)) (pss_one (ps_if (pt_val (pe_callC (cal_law_box_touches (K := K) T) (hr.mono (by decide)) (by rfl) (pa_cons (pv 10) (pa_cons (pe_op o_sub (pv 3) (pv 8)) (pa_cons (pv 6) (pa_cons (pe_op o_sub (pv 4) (pv 8)) (pa_cons (pe_op o_add (pv 3) (pv 8)) (pa_cons (pv 7) (pa_cons (pe_op o_add (pv 4) (pv 8)) pa_nil))))))))) (pss_one (ps_ret pe_bl)) pss_nil)))
      (pss_one (ps_ret pe_bl)))))))), ?_⟩
    change (_ : TS) _ [some _, some _, some _, some _, some _, some _, none, none, none, none, none] H
    have ⟨⟨dx, h1, h2, sl, e1, e2⟩, mo⟩ := hse
    have mle := mo.level
    have mw := mo.width
    have mt := mo.tall
    have mr := mo.rise
    have b1 := mulb (c := M.level) (x := M.rise) (a := 0) (b := 10) (by omega) mr.1 mr.2
    have b2 := mulb (c := M.level) (x := M.tall) (a := 1) (b := 10) (by omega) mt.1 mt.2
    have q1 : (L + M.rise) * M.level = L * M.level + M.rise * M.level := Int.add_mul _ _ _
    have q2 : (L + M.tall) * M.level = L * M.level + M.tall * M.level := Int.add_mul _ _ _
    have y0b : -1023 ≤ (L + M.rise) * M.level ∧ (L + M.rise) * M.level ≤ 1023 := by omega
    have y1b : -1023 ≤ (L + M.tall) * M.level ∧ (L + M.tall) * M.level ≤ 1023 := by omega
    obtain ⟨ys, hys, ay, ly⟩ := hso.ex
    obtain ⟨zs, hzs, az, lz⟩ := hbo.ex
    wtm_at "go"
    · exact k _ (Same.refl _)
    · rename_i hw0
      have hw : 0 < M.width := by omega
      generalize ey0 : (L + M.rise) * M.level = y0 at kt kb y0b
      generalize ey1 : (L + M.tall) * M.level = y1 at kt kb y1b
      refine for_list (xs := ys) (fun n σ H' => (∃ u9 u10, σ = [some (.ref s), some (.ref so), some (.ref bo), some (.int x), some (.int z), some (.int L), some (.int y0), some (.int y1), some (.int M.width), u9, u10]) ∧ Same H H')
        ⟨⟨_, _, rfl⟩, Same.refl _⟩ (fun n σ H' _ h' => SqL.of (h'.2 _ _ hys)) (fun n t σ H2 hx h2 => ?_) (fun σ H2 h2 => ?_)
      · obtain ⟨⟨u9, u10, rfl⟩, s2⟩ := h2
        obtain ⟨R, hR, a, rfl, hT⟩ := ay.get hx
        have mR := List.mem_of_getElem? hR
        wtm_at "go"
        refine do_law_touches (hT.tt (Tk.of s2)) (hso.sm R mR) ⟨bt_of (by omega), bt_of y0b, bt_of (by omega), bt_of (by omega), bt_of y1b, bt_of (by omega)⟩ fun b H3 s3 hb => ?_
        wtm_at "go"
        · rename_i hb1
          obtain ⟨l, hl⟩ := hb hb1
          exact (kt R mR l hw hl).elim
        · exact ⟨⟨_, _, rfl⟩, s2.trans s3⟩
      · obtain ⟨⟨u9, u10, rfl⟩, s2⟩ := h2
        have hzs2 := s2 _ _ hzs
        wtm_at "go"
        refine for_list (xs := zs) (fun n σ H' => (∃ u9 u10, σ = [some (.ref s), some (.ref so), some (.ref bo), some (.int x), some (.int z), some (.int L), some (.int y0), some (.int y1), some (.int M.width), u9, u10]) ∧ Same H H')
          ⟨⟨_, _, rfl⟩, s2⟩ (fun n σ H' _ h' => SqL.of (h'.2 _ _ hzs)) (fun n t σ H3 hx h3 => ?_) (fun σ H3 h3 => ?_)
        · obtain ⟨⟨u9, u10, rfl⟩, s3⟩ := h3
          obtain ⟨b, hb, a, rfl, hB⟩ := az.get hx
          have mb := List.mem_of_getElem? hb
          wtm_at "go"
          refine do_law_box_touches (s3 _ _ hB) fun H4 s4 => ?_
          wtm_at "go"
          · exact (kb b mb hw (by assumption)).elim
          · exact ⟨⟨_, _, rfl⟩, s3.trans s4⟩
        · obtain ⟨⟨u9, u10, rfl⟩, s3⟩ := h3
          wtm_at "go"
          exact k _ s3
theorem do_law_safe {K : PySem.W.Frag} {H : Hp} {Q : VK} {s so bo : Addr} {M : FpM.Me} {tl x z L : Int} {rs : List FpM.Tr} {bs : List FpM.Bx} (hse : SeAt K H s M tl) (hso : SpAt H so rs) (hbo : BsAt H bo bs)
    (bd : (0 ≤ x ∧ x ≤ 100) ∧ (0 ≤ z ∧ z ≤ 100) ∧ -900 ≤ L * M.level ∧ L * M.level ≤ 920)
    (kt : ∀ R ∈ rs, ∀ l, 0 < M.width → FpM.Inside R (x - M.width) ((L + M.rise) * M.level) (z - M.width) (x + M.width) ((L + M.tall) * M.level) (z + M.width) l → False)
    (kb : ∀ b ∈ bs, 0 < M.width → FpM.TouchB b (x - M.width) ((L + M.rise) * M.level) (z - M.width) (x + M.width) ((L + M.tall) * M.level) (z + M.width) → False) (k : ∀ H', Same H H' → Q (.bl true) H') :
    sp_law_safe K [.ref s, .ref so, .ref bo, .int x, .int z, .int L] H Q E0 := ⟨s, so, bo, M, tl, x, z, L, rs, bs, rfl, hse, hso, hbo, bd, kt, kb, k⟩
end
section
theorem wide_small {i j : Int} (hi : -1000000000000 ≤ i ∧ i ≤ 1000000000000) (hj : -1000000000000 ≤ j ∧ j ≤ 1000000000000) : CMulW i j :=
  (show Bt_ 40 i by unfold Bt_; omega).wide (show Bt_ 40 j by unfold Bt_; omega) (by decide)
end
section
local macro_rules | `(tactic| wtm_at "go1") => `(tactic| first
  | ((with_reducible refine i_mulW (wide_small ?e1 ?e2) ?_); (case e1 => omega); (case e2 => omega))
  | fail)
def sp_law_held (K : PySem.W.Frag) : Sp := fun vs H Q _ => ∃ (s so bo : Addr) (M : FpM.Me) (tl i k L : Int) (rs : List FpM.Tr) (bs : List FpM.Bx), vs = [.ref s, .ref so, .ref bo, .int i, .int k, .int L] ∧ SeAt K H s M tl ∧ SpAt H so rs ∧ BsAt H bo bs ∧
  ((0 ≤ i ∧ i ≤ 5) ∧ (0 ≤ k ∧ k ≤ 5) ∧ -900 ≤ L * M.level ∧ L * M.level ≤ 920) ∧
  ((∃ R ∈ rs, FpM.HeldT M i k L R) ∨ ∃ b ∈ bs, FpM.HeldB M i k L b) ∧
  ∀ H', Same H H' → Q (.bl true) H'
abbrev s_law_held : Stmt := topS 73
abbrev N_law_held : List Str := ["_law_settings_here", "_law_soup_here", "_law_boxes_here", "_law_i", "_law_k", "_law_level", "_law_cell", "_law_least", "_law_most", "_law_triangle_here", "_law_told", "_law_box_here", "_law_near"]
theorem sc_law_held : FnScope N_law_held ["_law_settings_here", "_law_soup_here", "_law_boxes_here", "_law_i", "_law_k", "_law_level"] (defScope s_law_held) := ⟨rfl, rfl, rfl, by decide +kernel, rfl, by decide +kernel, by decide +kernel⟩
theorem bd_law_held : BindsOf ["_law_settings_here", "_law_soup_here", "_law_boxes_here", "_law_i", "_law_k", "_law_level"] "_law_held" "_law_held" s_law_held := fun _ _ _ _ _ _ us hl => match us, hl with | [_, _, _, _, _, _], _ => rfl
theorem cal_law_held {P : Program} {w : World} {K : PySem.W.Frag} {mg : Str → Option Value} {base : Heap} (T : Tx K mg) : Cal P w K mg base "_law_held" 6 ["_law_settings_here", "_law_soup_here", "_law_boxes_here", "_law_i", "_law_k", "_law_level"] (sp_law_held K) := by
  refine T.law_held.cal sc_law_held bd_law_held (fun vs H Q E h => ?_) (fun f cdv A outer s H vs Q E hr h => ?_)
  · obtain ⟨s, so, bo, M, tl, i, k, L, rs, bs, rfl, hse, hso, hbo, bd, hd, kk⟩ := h; rfl
  · have hu := hu_of hr
    obtain ⟨s, so, bo, M, tl, i, k, L, rs, bs, rfl, hse, hso, hbo, bd, hd, kk⟩ := h
    refine ⟨_, (pss_cons (ps_set (i := 6) sc_law_held.nd rfl (.inl rfl) (pe_fld (pv 0) rfl))
      (pss_cons (ps_set (i := 7) sc_law_held.nd rfl (.inl rfl) (pe_op o_mulW (pe_op o_sub (pe_op o_sub (pv 5) (pe_fld (pv 0) rfl)) pe_int) (pe_fld (pv 0) rfl)))
      (pss_cons (ps_set (i := 8) sc_law_held.nd rfl (.inl rfl) (pe_op o_mulW (pv 5) (pe_fld (pv 0) rfl)))
      (pss_cons (ps_for PassesOwn.never rfl (pi_list (pv 1)) (pg_name (i := 9) sc_law_held.nd rfl (.inl rfl)) (pss_cons (ps_set (i := 10) sc_law_held.nd rfl (.inl rfl) pe_non)
      (Evl.pss_cut (ps_if (pt_val (pe_callC (cal_law_flat (K := K) T) (hr.mono (by decide)) (by rfl) (pa_cons (pv 9) (pa_cons (pe_fld (pv 0) rfl) pa_nil)))) (pss_one (ps_set (i := 10) sc_law_held.nd rfl (.inl rfl) (pe_callC (cal_law_extent (K := K) T) (hr.mono (by decide)) (by rfl) (pa_cons (pv 9) (pa_cons (pe_op o_mulW (pv 3) (pv 6)) (pa_cons (pe_op o_mulW (pv 4) (pv 6)) (pa_cons (pe_op o_add (pe_op o_mulW (pv 3) (pv 6)) (pv 6)) (pa_cons (pe_op o_add (pe_op o_mulW (pv 4) (pv 6)) (pv 6)) pa_nil)))))))) pss_nil)
      (pss_one (ps_if (PW.pt (pw_and (pt_cmpR op_notN1 (pv 10) pe_non (nomark _)) (pw_and1 (pt_chain o_le o_le (pe_op o_mulW (pv 7) (pe_ix (x_tup K) (pe_ix (x_list K) (pv 10) pe_int (fun _ _ => rfl)) pe_int (fun _ _ => rfl))) (pe_ix (x_tup K) (pe_ix (x_list K) (pv 10) pe_int (fun _ _ => rfl)) pe_int (fun _ _ => rfl)) (pe_op o_mulW (pv 8) (pe_ix (x_tup K) (pe_ix (x_list K) (pv 10) pe_int (fun _ _ => rfl)) pe_int (fun _ _ => rfl))))))) (pss_one (ps_ret pe_bl)) pss_nil)))))
      (pss_cons (ps_for PassesOwn.never rfl (pi_list (pv 2)) (pg_name (i := 11) sc_law_held.nd rfl (.inl rfl)) (Evl.pss_cut (ps_set (i := 12) sc_law_held.nd rfl (.inl rfl) (pe_and (pe_cmpR o_le (pe_ix (x_tup K) (pv 11) pe_int (fun _ _ => rfl)) (pe_op o_add (pe_op o_mulW (pv 3) (pv 6)) (pv 6)) (nomark _)) (pe_and (pe_cmpR op_ge1 (pe_ix (x_tup K) (pv 11) pe_int (fun _ _ => rfl)) (pe_op o_mulW (pv 3) (pv 6)) (nomark _)) (pe_and (pe_cmpR o_le (pe_ix (x_tup K) (pv 11) pe_int (fun _ _ => rfl)) (pe_op o_add (pe_op o_mulW (pv 4) (pv 6)) (pv 6)) (nomark _)) (pe_one (pe_cmpR op_ge1 (pe_ix (x_tup K) (pv 11) pe_int (fun _ _ => rfl)) (pe_op o_mulW (pv 4) (pv 6)) (nomark _)))))))
      (pss_one (ps_if (PW.pt (pw_and (pt_val (pe_ix (x_tup K) (pv 11) pe_int (fun _ _ => rfl))) (pw_and (pt_val (pv 12)) (pw_and1 (pt_chain o_le o_le (pv 7) (pe_ix (x_tup K) (pv 11) pe_int (fun _ _ => rfl)) (pv 8)))))) (pss_one (ps_ret pe_bl)) pss_nil))))
      (pss_one (ps_ret pe_bl))))))), ?_⟩
    change (_ : TS) _ [some _, some _, some _, some _, some _, some _, none, none, none, none, none, none, none] H
    have ⟨⟨dx, h1, h2, sl, e1, e2⟩, mo⟩ := hse
    have mle := mo.level
    have mc := mo.cell
    have msl := mo.slack
    have b1 := mulb (c := M.cell) (x := i) (a := 0) (b := 5) (by omega) bd.1.1 bd.1.2
    have b2 := mulb (c := M.cell) (x := k) (a := 0) (b := 5) (by omega) bd.2.1.1 bd.2.1.2
    have b3 := mulb (c := M.level) (x := M.slack + 1) (a := 1) (b := 4) (by omega) (by omega) (by omega)
    have q3 : (L - M.slack - 1) * M.level = L * M.level - (M.slack + 1) * M.level := by
      have : L - M.slack - 1 = L - (M.slack + 1) := by omega
      rw [this, Int.sub_mul]
    have hL : -900 ≤ L ∧ L ≤ 920 := by
      constructor
      · apply Classical.byContradiction
        intro q
        have := FpM.scale (w := M.level) (by omega) (show L ≤ -901 by omega)
        omega
      · apply Classical.byContradiction
        intro q
        have := FpM.scale (w := M.level) (by omega) (show 921 ≤ L by omega)
        omega
    obtain ⟨ys, hys, ay, ly⟩ := hso.ex
    obtain ⟨zs, hzs, az, lz⟩ := hbo.ex
    wtm_at "go"
    have bl : Bt_ 12 ((L - M.slack - 1) * M.level) := by unfold Bt_; omega
    have bm : Bt_ 12 (L * M.level) := by unfold Bt_; omega
    refine for_list (xs := ys) (fun n σ H' => (∃ u9 u10 u11 u12, σ = [some (.ref s), some (.ref so), some (.ref bo), some (.int i), some (.int k), some (.int L), some (.int M.cell), some (.int ((L - M.slack - 1) * M.level)), some (.int (L * M.level)), u9, u10, u11, u12]) ∧ Same H H' ∧ ∀ R ∈ rs.take n, ¬ FpM.HeldT M i k L R)
      ⟨⟨_, _, _, _, rfl⟩, Same.refl _, fun R hR => absurd hR (by simp)⟩ (fun n σ H' _ h' => SqL.of (h'.2.1 _ _ hys)) (fun n t σ H2 hx h2 => ?_) (fun σ H2 h2 => ?_)
    · obtain ⟨⟨u9, u10, u11, u12, rfl⟩, s2, no2⟩ := h2
      obtain ⟨R, hR, a, rfl, hT⟩ := ay.get hx
      have mR := List.mem_of_getElem? hR
      have smR := hso.sm R mR
      have e1' := s2 _ _ e1
      have step : ¬ FpM.HeldT M i k L R → ∀ R' ∈ rs.take (n + 1), ¬ FpM.HeldT M i k L R' := fun z R' h => by
        rw [take_snoc hR] at h
        rcases List.mem_append.mp h with h | h
        · exact no2 R' h
        · rw [List.mem_singleton.mp h]; exact z
      wtm_at "go"
      refine i_cut (fun σ' H' => (∃ v, σ' = [some (.ref s), some (.ref so), some (.ref bo), some (.int i), some (.int k), some (.int L), some (.int M.cell), some (.int ((L - M.slack - 1) * M.level)), some (.int (L * M.level)), some (.ref a), some v, u11, u12] ∧
        ((v = .non ∧ ¬ FpM.HeldT M i k L R) ∨ ∃ (r p q : Addr) (u : FpM.V4), v = .ref r ∧ H' r = some (.lst [.ref p, .ref q]) ∧ T2 H' q u.y u.w ∧ FpM.HighOf (FpM.overM R (i * M.cell) (k * M.cell) (i * M.cell + M.cell) (k * M.cell + M.cell)) u ∧ B4 340 u)) ∧ Same H H') ?_ ?_
      · wtm_at "go"
        refine do_law_flat (hT.tt (Tk.of s2)) smR (s2 _ _ e2) mo.slope fun H3 s3 => ?_
        have e1'' := s3 _ _ e1'
        wtm_at "go"
        · refine do_law_extent (hT.tt (Tk.of (s2.trans s3))) smR ⟨bt_of (by omega), bt_of (by omega), bt_of (by omega), bt_of (by omega)⟩ (fun eo H4 s4 => ?_) fun r p q _ _ u H4 _ s4 hr hq hu bu => ?_
          · wtm_at "go"
            exact ⟨⟨_, rfl, .inl ⟨rfl, fun z => z.2.1 eo⟩⟩, s2.trans (s3.trans s4)⟩
          · wtm_at "go"
            exact ⟨⟨_, rfl, .inr ⟨r, p, q, u, rfl, hr, hq, hu, bu⟩⟩, s2.trans (s3.trans s4)⟩
        · rename_i hf
          exact ⟨⟨_, rfl, .inl ⟨rfl, fun z => hf (of_decide_eq_true z.1)⟩⟩, s2.trans s3⟩
      · rintro σ' H3 ⟨⟨v, rfl, hv⟩, s3⟩
        rcases hv with ⟨rfl, no⟩ | ⟨r, p, q, u, rfl, hr, hq, hu, bu⟩
        · wtm_at "go"
          exact ⟨⟨_, _, _, _, rfl⟩, s3, step no⟩
        · wtm_at "go"
          refine i_mulW (bl.wide bu.2.2.2 (by decide)) ?_
          wtm_at "go"
          · refine i_mulW (bm.wide bu.2.2.2 (by decide)) ?_
            wtm_at "go"
            · exact kk _ s3
            · rename_i n1
              exact ⟨⟨_, _, _, _, rfl⟩, s3, step fun z => n1 (z.2.2 u hu).2⟩
          · rename_i n1
            exact ⟨⟨_, _, _, _, rfl⟩, s3, step fun z => n1 (z.2.2 u hu).1⟩
    · obtain ⟨⟨u9, u10, u11, u12, rfl⟩, s2, no2⟩ := h2
      have no2 : ∀ R ∈ rs, ¬ FpM.HeldT M i k L R := by
        rw [List.take_of_length_le (Nat.le_of_eq ay.length.symm)] at no2
        exact no2
      have hzs2 := s2 _ _ hzs
      wtm_at "go"
      refine for_list (xs := zs) (fun n σ H' => (∃ u9 u10 u11 u12, σ = [some (.ref s), some (.ref so), some (.ref bo), some (.int i), some (.int k), some (.int L), some (.int M.cell), some (.int ((L - M.slack - 1) * M.level)), some (.int (L * M.level)), u9, u10, u11, u12]) ∧ Same H H' ∧ ∀ b ∈ bs.take n, ¬ FpM.HeldB M i k L b)
        ⟨⟨_, _, _, _, rfl⟩, s2, fun R hR => absurd hR (by simp)⟩ (fun n σ H' _ h' => SqL.of (h'.2.1 _ _ hzs)) (fun n t σ H3 hx h3 => ?_) (fun σ H3 h3 => ?_)
      · obtain ⟨⟨u9, u10, u11, u12, rfl⟩, s3, no3⟩ := h3
        obtain ⟨b, hb, a, rfl, hB⟩ := az.get hx
        have hB3 := s3 _ _ hB
        unfold BxAt at hB
        have step : ¬ FpM.HeldB M i k L b → ∀ b' ∈ bs.take (n + 1), ¬ FpM.HeldB M i k L b' := fun z b' h => by
          rw [take_snoc hb] at h
          rcases List.mem_append.mp h with h | h
          · exact no3 b' h
          · rw [List.mem_singleton.mp h]; exact z
        wtm_at "go"
        refine i_cut (fun σ' H' => (∃ nb : Bool, σ' = [some (.ref s), some (.ref so), some (.ref bo), some (.int i), some (.int k), some (.int L), some (.int M.cell), some (.int ((L - M.slack - 1) * M.level)), some (.int (L * M.level)), u9, u10, some (.ref a), some (.bl nb)] ∧ (nb = true ↔ FpM.BoxNear M b i k)) ∧ H' = H3) ?_ ?_
        · wtm_at "go"
          all_goals refine ⟨⟨_, rfl, ?_⟩, rfl⟩
          all_goals unfold FpM.BoxNear
          all_goals simp only [decide_eq_true_eq, Bool.false_eq_true, false_iff]
          all_goals omega
        · rintro σ' H' ⟨⟨nb, rfl, hn⟩, rfl⟩
          wtm_at "go"
          · exact kk _ s3
          all_goals refine ⟨⟨_, _, _, _, rfl⟩, s3, step fun z => ?_⟩
          all_goals obtain ⟨z1, z2, z3, z4⟩ := z
          all_goals first
            | exact absurd z3 (by assumption)
            | exact absurd z4 (by assumption)
            | exact absurd (z1.symm.trans (by assumption : b.flat = false)) (by decide)
            | exact absurd ((hn.mpr z2).symm.trans (by assumption : nb = false)) (by decide)
      · obtain ⟨⟨u9, u10, u11, u12, rfl⟩, s3, no3⟩ := h3
        rw [List.take_of_length_le (Nat.le_of_eq az.length.symm)] at no3
        rcases hd with ⟨R, h1, h2⟩ | ⟨b, h1, h2⟩
        · exact (no2 R h1 h2).elim
        · exact (no3 b h1 h2).elim
theorem do_law_held {K : PySem.W.Frag} {H : Hp} {Q : VK} {s so bo : Addr} {M : FpM.Me} {tl i k L : Int} {rs : List FpM.Tr} {bs : List FpM.Bx} (hse : SeAt K H s M tl) (hso : SpAt H so rs) (hbo : BsAt H bo bs)
    (bd : (0 ≤ i ∧ i ≤ 5) ∧ (0 ≤ k ∧ k ≤ 5) ∧ -900 ≤ L * M.level ∧ L * M.level ≤ 920) (hd : (∃ R ∈ rs, FpM.HeldT M i k L R) ∨ ∃ b ∈ bs, FpM.HeldB M i k L b) (kk : ∀ H', Same H H' → Q (.bl true) H') :
    sp_law_held K [.ref s, .ref so, .ref bo, .int i, .int k, .int L] H Q E0 := ⟨s, so, bo, M, tl, i, k, L, rs, bs, rfl, hse, hso, hbo, bd, hd, kk⟩
end
section
theorem MeOk.me {M : FpM.Me} {tl : Int} (m : MeOk M tl) : M.Ok := by
  have := m.cell; have := m.level; have := m.reach
  exact ⟨by omega, by omega, m.wr, by omega⟩
theorem StAt.ne_refs {H : Hp} {r l p : Addr} {xs : List V} (h : StAt H r l) (hp : H p = some (.lst xs)) {y : V} (hy : y ∈ xs) (hr : ∀ y ∈ xs, ∃ a, y = V.ref a) : p ≠ r ∧ p ≠ l := by
  obtain ⟨cs, n, h1, h2, _⟩ := h
  constructor
  · rintro rfl
    rw [h1] at hp
    have e : [V.ref l, .int n] = xs := by injection hp with hp; injection hp
    obtain ⟨a, q⟩ := hr (.int n) (by rw [← e]; simp)
    cases q
  · rintro rfl
    rw [h2] at hp
    have e : cs.map V.int = xs := by injection hp with hp; injection hp
    rw [← e] at hy hr
    obtain ⟨c, _, rfl⟩ := List.mem_map.mp hy
    obtain ⟨a, q⟩ := hr _ hy
    cases q
/-- what stands in the law's heap -/
structure LwAt (K : PySem.W.Frag) (r l se so bo : Addr) (M : FpM.Me) (tl : Int) (rs : List FpM.Tr) (bs : List FpM.Bx) (H : Hp) : Prop where
  st : StAt H r l
  f_se : SeAt K H se M tl
  f_so : SpAt H so rs
  f_bo : BsAt H bo bs
  nso : so ≠ r ∧ so ≠ l
  nbo : bo ≠ r ∧ bo ≠ l
section
variable {K : PySem.W.Frag} {r l se so bo : Addr} {M : FpM.Me} {tl : Int} {rs : List FpM.Tr} {bs : List FpM.Bx} {H H' : Hp}
theorem LwAt.same (h : LwAt K r l se so bo M tl rs bs H) (s : Same H H') : LwAt K r l se so bo M tl rs bs H' := ⟨h.st.same s, h.f_se.same s, h.f_so.same s, h.f_bo.same s, h.nso, h.nbo⟩
theorem LwAt.dr (h : LwAt K r l se so bo M tl rs bs H) (d : Dr r l H H') : LwAt K r l se so bo M tl rs bs H' := by
  have tk := d.tk h.st
  obtain ⟨ys, a1, a2, a3⟩ := h.f_so.ex
  obtain ⟨zs, b1, b2, b3⟩ := h.f_bo.ex
  exact ⟨d.st, d.se h.st h.f_se, ⟨⟨ys, d.bt _ _ h.nso.1 h.nso.2 a1, a2.mono fun v o q => q.tt tk, a3⟩, h.f_so.sm⟩, ⟨⟨zs, d.bt _ _ h.nbo.1 h.nbo.2 b1, b2.mono fun v o q => q.tt tk, b3⟩⟩, h.nso, h.nbo⟩
end
/-- a floor of the mesh is held and safe -/
theorem floor_facts {M : FpM.Me} {tl : Int} {rs : List FpM.Tr} {bs : List FpM.Bx} {C : Int → Int → List FpM.Sol} {i k L : Int} (mo : MeOk M tl) (sm : ∀ R ∈ rs, TrSm R) (ok : ∀ b ∈ bs, BxOk b)
    (hC : ∀ i k, 0 ≤ i → i < M.columns → 0 ≤ k → k < M.rows → FpM.ColOk M (nearM M rs) (closeM M bs) i k (C i k)) (F : FpM.FloorOk M C i k L) :
    ((0 ≤ i ∧ i ≤ 5) ∧ (0 ≤ k ∧ k ≤ 5) ∧ -900 ≤ L * M.level ∧ L * M.level ≤ 920) ∧ ((∃ R ∈ rs, FpM.HeldT M i k L R) ∨ ∃ b ∈ bs, FpM.HeldB M i k L b) ∧
    ∀ x z, i * M.cell ≤ x ∧ x ≤ i * M.cell + M.cell → k * M.cell ≤ z ∧ z ≤ k * M.cell + M.cell →
      (∀ R ∈ rs, ∀ l, 0 < M.width → FpM.Inside R (x - M.width) ((L + M.rise) * M.level) (z - M.width) (x + M.width) ((L + M.tall) * M.level) (z + M.width) l → False) ∧
      ∀ b ∈ bs, 0 < M.width → FpM.TouchB b (x - M.width) ((L + M.rise) * M.level) (z - M.width) (x + M.width) ((L + M.tall) * M.level) (z + M.width) → False := by
  have mr := mo.reach
  have g := (F.room i k (by omega) (by omega) (by omega) (by omega)).1
  have mc := mo.columns
  have mw := mo.rows
  have c0 := hC i k g.1 g.2.1 g.2.2.1 g.2.2.2
  have near : ∀ R, R ∈ nearM M rs → R ∈ rs := fun R h => (List.mem_filter.mp h).1
  have close : ∀ b, b ∈ closeM M bs → b ∈ bs := fun b h => (List.mem_filter.mp h).1
  refine ⟨⟨by omega, by omega, FpM.level_bound mo.me mo.level.2 mo.slack c0 F (fun R h => ?_) fun b h => ?_⟩, ?_, fun x z hx hz => ⟨fun R h l _ q => ?_, fun b h w q => ?_⟩⟩
  · have := sm R (near R h)
    exact ⟨this.ay, this.by_, this.cy⟩
  · have := ok b (close b h)
    exact ⟨this.2.2.2.1, this.2.2.2.2⟩
  · rcases FpM.floor_held mo.me c0 F with ⟨t, h, q⟩ | ⟨b, h, q⟩
    · exact .inl ⟨t, near t h, q⟩
    · exact .inr ⟨b, close b h, q⟩
  · exact FpM.floor_safe_tri mo.me hC F hx hz (fun z => List.mem_filter.mpr ⟨h, z⟩) q
  · have o := ok b h
    exact FpM.floor_safe_box mo.me hC F w hx hz (fun z => List.mem_filter.mpr ⟨h, z⟩) ⟨o.1, o.2.1, o.2.2.1⟩ q.1 q.2.1 q.2.2
def sp_law (K : PySem.W.Frag) : Sp := fun vs H Q _ => ∃ (a : Addr) (ns : List Int), vs = [.ref a] ∧ SqL K H a (ns.map V.int) ∧ ns.length ≤ sizeLine ∧ Tb K H ∧ ∀ H', Q (.bl true) H'
abbrev s_law : Stmt := topS 74
abbrev N_law : List Str := ["_law_script", "_law_state_here", "_law_settings_here", "_law_soup_here", "_law_boxes_here", "_law_columns", "_law_plates", "_law_portals", "_law_cell", "_law_plate", "_law_i", "_law_k", "_law_level", "_law_x", "_law_z"]
theorem sc_law : FnScope N_law ["_law_script"] (defScope s_law) := ⟨rfl, rfl, rfl, by decide +kernel, rfl, by decide +kernel, by decide +kernel⟩

theorem ok_law {P : Program} {w : World} {K : PySem.W.Frag} {mg : Str → Option Value} {base : Heap} (T : Tx K mg) (Z : Tz K mg base) {f : Addr} {fd : FuncData} (F : FunD K "law" "law" (defArgs (topS 74)) (defBody (topS 74)) (defScope (topS 74)) [] [] f fd) :
    FnOk P w K mg base CX0 9 f fd ["_law_script"] (sp_law K) := by
  refine F.ok sc_law (fun vs H Q E h => ?_) fun cdv A outer s H vs Q E hr h => ?_
  · obtain ⟨a, ns, rfl, _⟩ := h; rfl
  · have hu := hu_of hr
    suffices hh : ∃ t, PSs (cxOf CX0 P w K mg base N_law "law" (defScope s_law) f cdv A outer s H E).nox (defBody s_law) t ∧ t { nx := fun _ H' => Q .non H', rt := Q } (start N_law vs) H by
      obtain ⟨t, ht, q⟩ := hh
      exact ⟨t, ht.nox, q⟩
    obtain ⟨a, ns, rfl, hs, ln, tb, k⟩ := h
    refine ⟨_, (pss_cons (ps_set (i := 1) sc_law.nd rfl (.inl rfl) (pe_callC (cal_law_state (K := K) T) (hr.mono (by decide)) (by rfl) (pa_cons (pv 0) pa_nil)))
      (pss_cons (ps_set (i := 2) sc_law.nd rfl (.inl rfl) (pe_callC (cal_law_settings (K := K) T) (hr.mono (by decide)) (by rfl) (pa_cons (pv 1) pa_nil)))
      (pss_cons (ps_set (i := 3) sc_law.nd rfl (.inl rfl) (pe_callC (cal_law_soup (K := K) T) (hr.mono (by decide)) (by rfl) (pa_cons (pv 1) (pa_cons (pv 2) pa_nil))))
      (pss_cons (ps_set (i := 4) sc_law.nd rfl (.inl rfl) (pe_callC (cal_law_boxes (K := K) T) (hr.mono (by decide)) (by rfl) (pa_cons (pv 1) (pa_cons (pv 2) pa_nil))))
      (pss_cons (ps_set (i := 5) sc_law.nd rfl (.inl rfl) (pe_callC (cal_columns_of (K := K) T Z) (hr.mono (by decide)) (by rfl) (pa_cons (pv 2) (pa_cons (pv 3) (pa_cons (pv 4) (pa_cons pe_int (pa_cons pe_int (pa_cons (pe_op o_sub (pe_fld (pv 2) rfl) pe_int) (pa_cons (pe_op o_sub (pe_fld (pv 2) rfl) pe_int) pa_nil)))))))))
      (pss_cons (ps_asg (pe_callC (cal_mesh (K := K) T) (hr.mono (by decide)) (by rfl) (pa_cons (pv 2) (pa_cons (pv 5) pa_nil))) (pg_tup rfl (pgs_cons (pg_name (i := 6) sc_law.nd rfl (.inl rfl)) (pgs_cons (pg_name (i := 7) sc_law.nd rfl (.inl rfl)) pgs_nil))))
      (pss_cons (ps_set (i := 8) sc_law.nd rfl (.inl rfl) (pe_fld (pv 2) rfl))
      (pss_cons (ps_for PassesOwn.never rfl (pi_list (pv 6)) (pg_name (i := 9) sc_law.nd rfl (.inl rfl)) (pss_one (ps_for PassesOwn.never rfl (pi_list (pe_callC (cal_plate_floors (K := K) T) (hr.mono (by decide)) (by rfl) (pa_cons (pv 9) pa_nil))) (pg_tup rfl (pgs_cons (pg_name (i := 10) sc_law.nd rfl (.inl rfl)) (pgs_cons (pg_name (i := 11) sc_law.nd rfl (.inl rfl)) (pgs_cons (pg_name (i := 12) sc_law.nd rfl (.inl rfl)) pgs_nil)))) (pss_cons (ps_if (pt_not (pt_val (pe_callC (cal_law_held (K := K) T) (hr.mono (by decide)) (by rfl) (pa_cons (pv 2) (pa_cons (pv 3) (pa_cons (pv 4) (pa_cons (pv 10) (pa_cons (pv 11) (pa_cons (pv 12) pa_nil))))))))) (pss_one (ps_ret pe_bl)) pss_nil)
      (pss_cons (ps_set (i := 13) sc_law.nd rfl (.inl rfl) (pe_op o_add (pe_op o_mul (pv 10) (pv 8)) (pe_ix (x_list K) (pe_lst (pa_cons pe_int (pa_cons (pv 8) (pa_cons (pe_callC (cal_law_draw (K := K) T) (hr.mono (by decide)) (by rfl) (pa_cons (pv 1) (pa_cons (pe_op o_add (pv 8) pe_int) pa_nil))) pa_nil)))) (pe_callC (cal_law_draw (K := K) T) (hr.mono (by decide)) (by rfl) (pa_cons (pv 1) (pa_cons pe_int pa_nil))) (fun _ _ => rfl))))
      (pss_cons (ps_set (i := 14) sc_law.nd rfl (.inl rfl) (pe_op o_add (pe_op o_mul (pv 11) (pv 8)) (pe_ix (x_list K) (pe_lst (pa_cons pe_int (pa_cons (pv 8) (pa_cons (pe_callC (cal_law_draw (K := K) T) (hr.mono (by decide)) (by rfl) (pa_cons (pv 1) (pa_cons (pe_op o_add (pv 8) pe_int) pa_nil))) pa_nil)))) (pe_callC (cal_law_draw (K := K) T) (hr.mono (by decide)) (by rfl) (pa_cons (pv 1) (pa_cons pe_int pa_nil))) (fun _ _ => rfl))))
      (pss_one (ps_if (pt_not (pt_val (pe_callC (cal_law_safe (K := K) T) (hr.mono (by decide)) (by rfl) (pa_cons (pv 2) (pa_cons (pv 3) (pa_cons (pv 4) (pa_cons (pv 13) (pa_cons (pv 14) (pa_cons (pv 12) pa_nil))))))))) (pss_one (ps_ret pe_bl)) pss_nil))))))))
      (pss_one (ps_ret pe_bl)))))))))), ?_⟩
    change (_ : TS) _ [some _, none, none, none, none, none, none, none, none, none, none, none, none, none, none] H
    wtm_at "go"
    refine do_law_state hs ln fun r l H1 s1 st1 nr nl => ?_
    wtm_at "go"
    refine do_law_settings st1 fun se M tl H2 d2 hse2 => ?_
    have mo := hse2.ok
    wtm_at "go"
    refine do_law_soup d2.st hse2 fun so H3 so3 => ?_
    obtain ⟨nso, d3, ys, rs, hys3, ays3, lrs, smr⟩ := so3
    have kso := d2.st.nw nso
    wtm_at "go"
    refine do_law_boxes d3.st (d3.se d2.st hse2) fun bo zs bs H4 nbo d4 hzs azs lbs okb => ?_
    have kbo := d3.st.nw nbo
    have hse4 := d4.se d3.st (d3.se d2.st hse2)
    have hys4 := d4.bt _ _ kso.1 kso.2 hys3
    have ays4 : A2 (TriV H4) ys rs := ays3.mono fun v o q => q.tt (d4.tk d3.st)
    have tb4 : Tb K H4 := d4.tb d3.st (d3.tb d2.st (d2.tb st1 (tb.same s1)))
    obtain ⟨dx, h1, h2, sl, e1, e2⟩ := hse4.ex
    wtm_at "go"
    refine do_columns_of hse4 tb4 hys4 ays4 hzs azs ⟨lrs, lbs⟩ smr fun d C H5 x5 tb5 cd5 col5 => ?_
    wtm_at "go"
    refine do_mesh (hse4.ext x5) cd5 fun p pl xv fs H6 s6 hp6 hl6 pt6 => ?_
    have ly := ays4.length
    have lz := azs.length
    have x6 : LamX.ExtN H4 H6 := x5.trans (ExtN.of s6)
    have st6 : StAt H6 r l := by
      obtain ⟨cs, n, q1, q2, q3⟩ := d4.st
      exact ⟨cs, n, x6 _ _ q1 (by intro _ z; cases z), x6 _ _ q2 (by intro _ z; cases z), q3⟩
    have lw6 : LwAt K r l se so bo M tl rs bs H6 := ⟨st6, hse4.ext x6, ⟨⟨ys, x6 _ _ hys4 (by intro _ z; cases z), ays4.mono fun v o q => q.tt (Tk.ofN x6), by omega⟩, smr⟩,
      ⟨⟨zs, x6 _ _ hzs (by intro _ z; cases z), azs.mono fun v o q => q.tt (Tk.ofN x6), by omega⟩⟩, kso, kbo⟩
    have e16 := x6 _ _ e1 (by intro _ z; cases z)
    have ff := fun {i k L : Int} (F : FpM.FloorOk M C i k L) => floor_facts mo smr okb col5 F
    have mc := mo.cell
    wtm_at "go"
    refine for_list (xs := fs) (fun n σ H' => (∃ u9 u10 u11 u12 u13 u14, σ = [some (.ref a), some (.ref r), some (.ref se), some (.ref so), some (.ref bo), some (.ref d), some (.ref pl), some xv, some (.int M.cell), u9, u10, u11, u12, u13, u14]) ∧ LwAt K r l se so bo M tl rs bs H' ∧ H' pl = some (.lst fs) ∧ ∀ y ∈ fs, PtAt (FpM.FloorOk M C) H' y)
      ⟨⟨_, _, _, _, _, _, rfl⟩, lw6, hl6, pt6⟩ (fun n σ H' _ h' => SqL.of h'.2.2.1) (fun n x σ H7 hx h7 => ?_) (fun σ H7 h7 => ?_)
    · obtain ⟨⟨u9, u10, u11, u12, u13, u14, rfl⟩, lw7, hl7, pt7⟩ := h7
      have mx := List.mem_of_getElem? hx
      have npl := lw7.st.ne_refs hl7 mx (fun y hy => by obtain ⟨a, l, i, k, k1, w, ns, e, _⟩ := pt7 y hy; exact ⟨a, e⟩)
      wtm_at "go"
      refine do_plate_floors (pt7 x mx) fun q ws H8 s8 hq8 lws pl8 => ?_
      wtm_at "go"
      refine for_list (xs := ws) (fun n σ H' => (∃ u10 u11 u12 u13 u14, σ = [some (.ref a), some (.ref r), some (.ref se), some (.ref so), some (.ref bo), some (.ref d), some (.ref pl), some xv, some (.int M.cell), some x, u10, u11, u12, u13, u14]) ∧ LwAt K r l se so bo M tl rs bs H' ∧ H' pl = some (.lst fs) ∧ (∀ y ∈ fs, PtAt (FpM.FloorOk M C) H' y) ∧ H' q = some (.lst ws) ∧ ∀ y ∈ ws, PlV (FpM.FloorOk M C) H' y)
        ⟨⟨_, _, _, _, _, rfl⟩, lw7.same s8, s8 _ _ hl7, fun y hy => (pt7 y hy).tt (Tk.of s8), hq8, pl8⟩ (fun n σ H' _ h' => SqL.of h'.2.2.2.2.1) (fun j y σ H9 hy h9 => ?_) (fun σ H9 h9 => ?_)
      · obtain ⟨⟨u10, u11, u12, u13, u14, rfl⟩, lw9, hl9, pt9, hq9, pf9⟩ := h9
        have my := List.mem_of_getElem? hy
        have nq := lw9.st.ne_refs hq9 my (fun y hy => by obtain ⟨q, _, _, _, e, _⟩ := pf9 y hy; exact ⟨q, e⟩)
        obtain ⟨c, i, k0, L, rfl, hc, F⟩ := pf9 y my
        obtain ⟨bd, hd, safe⟩ := ff F
        have b1 := mulb (c := M.cell) (x := i) (a := 0) (b := 5) (by omega) bd.1.1 bd.1.2
        have b2 := mulb (c := M.cell) (x := k0) (a := 0) (b := 5) (by omega) bd.2.1.1 bd.2.1.2
        wtm_at "go"
        refine do_law_held lw9.f_se lw9.f_so lw9.f_bo bd hd fun H10 s10 => ?_
        have lw10 := lw9.same s10
        wtm_at "go"
        refine do_law_draw lw10.st (by omega) fun v1 H11 d11 q11 => ?_
        wtm_at "go"
        rename_i p1 hp1
        refine do_law_draw (d11.st.same (same_new hp1)) (by omega) fun v2 H12 d12 q12 => ?_
        refine i_ix3 (Dr.new d11.st hp1 d12) q12 fun vx hvx => ?_
        wtm_at "go"
        refine do_law_draw d12.st (by omega) fun v3 H13 d13 q13 => ?_
        wtm_at "go"
        rename_i p2 hp2
        refine do_law_draw (d13.st.same (same_new hp2)) (by omega) fun v4 H14 d14 q14 => ?_
        refine i_ix3 (Dr.new d13.st hp2 d14) q14 fun vz hvz => ?_
        have D := ((((d11.add hp1).trans d12).trans d13).add hp2).trans d14
        have lw14 := lw10.dr D
        have tk := (Tk.of s10).trans (D.tk lw10.st)
        have hl14 := D.bt _ _ npl.1 npl.2 (s10 _ _ hl9)
        have hq14 := D.bt _ _ nq.1 nq.2 (s10 _ _ hq9)
        wtm_at "go"
        have sf := safe (i * M.cell + vx) (k0 * M.cell + vz) (by omega) (by omega)
        refine do_law_safe lw14.f_se lw14.f_so lw14.f_bo ⟨by omega, by omega, bd.2.2⟩ sf.1 sf.2 fun H15 s15 => ?_
        wtm_at "go"
        have tk2 := tk.trans (Tk.of s15)
        exact ⟨⟨_, _, _, _, _, rfl⟩, lw14.same s15, s15 _ _ hl14, fun y hy => (pt9 y hy).tt tk2, s15 _ _ hq14, fun y hy => (pf9 y hy).tt tk2⟩
      · obtain ⟨⟨u10, u11, u12, u13, u14, rfl⟩, lw9, hl9, pt9, hq9, pf9⟩ := h9
        exact ⟨⟨_, _, _, _, _, _, rfl⟩, lw9, hl9, pt9⟩
    · obtain ⟨⟨u9, u10, u11, u12, u13, u14, rfl⟩, lw7, hl7, pt7⟩ := h7
      wtm_at "go"
      exact k _
end
section
open FpH
section
variable {K : PySem.W.Frag} {h : Heap} {mg : Str → Option Value} (X : K.In h) (G : h.Ns mainGlobals mg) (c : He.SaysD fa fn K)
include X G c
theorem x_open_levels : Df K mg "open_levels" (topS 1) := by
  obtain ⟨fd, F⟩ := c.def_ 0 (d := d_open_levels) rfl
  exact ⟨_, fd, F, He.glo_ok X G (c.fact 30 (f := .glo "open_levels") rfl)⟩
theorem x_is_free : Df K mg "is_free" (topS 2) := by
  obtain ⟨fd, F⟩ := c.def_ 1 (d := d_is_free) rfl
  exact ⟨_, fd, F, He.glo_ok X G (c.fact 31 (f := .glo "is_free") rfl)⟩
theorem x_has_room : Df K mg "has_room" (topS 3) := by
  obtain ⟨fd, F⟩ := c.def_ 2 (d := d_has_room) rfl
  exact ⟨_, fd, F, He.glo_ok X G (c.fact 32 (f := .glo "has_room") rfl)⟩
theorem x_levels_of : Df K mg "levels_of" (topS 4) := by
  obtain ⟨fd, F⟩ := c.def_ 3 (d := d_levels_of) rfl
  exact ⟨_, fd, F, He.glo_ok X G (c.fact 33 (f := .glo "levels_of") rfl)⟩
theorem x_floors_of : Df K mg "floors_of" (topS 5) := by
  obtain ⟨fd, F⟩ := c.def_ 4 (d := d_floors_of) rfl
  exact ⟨_, fd, F, He.glo_ok X G (c.fact 34 (f := .glo "floors_of") rfl)⟩
theorem x_partner : Df K mg "partner" (topS 6) := by
  obtain ⟨fd, F⟩ := c.def_ 5 (d := d_partner) rfl
  exact ⟨_, fd, F, He.glo_ok X G (c.fact 35 (f := .glo "partner") rfl)⟩
theorem x_grown_right : Df K mg "grown_right" (topS 8) := by
  obtain ⟨fd, F⟩ := c.def_ 6 (d := d_grown_right) rfl
  exact ⟨_, fd, F, He.glo_ok X G (c.fact 36 (f := .glo "grown_right") rfl)⟩
theorem x_row_below : Df K mg "row_below" (topS 9) := by
  obtain ⟨fd, F⟩ := c.def_ 7 (d := d_row_below) rfl
  exact ⟨_, fd, F, He.glo_ok X G (c.fact 37 (f := .glo "row_below") rfl)⟩
theorem x_plate_at : Df K mg "plate_at" (topS 10) := by
  obtain ⟨fd, F⟩ := c.def_ 8 (d := d_plate_at) rfl
  exact ⟨_, fd, F, He.glo_ok X G (c.fact 38 (f := .glo "plate_at") rfl)⟩
theorem x_tile_plates : Df K mg "tile_plates" (topS 11) := by
  obtain ⟨fd, F⟩ := c.def_ 9 (d := d_tile_plates) rfl
  exact ⟨_, fd, F, He.glo_ok X G (c.fact 39 (f := .glo "tile_plates") rfl)⟩
theorem x_plate_floors : Df K mg "plate_floors" (topS 12) := by
  obtain ⟨fd, F⟩ := c.def_ 10 (d := d_plate_floors) rfl
  exact ⟨_, fd, F, He.glo_ok X G (c.fact 40 (f := .glo "plate_floors") rfl)⟩
theorem x_owners : Df K mg "owners" (topS 13) := by
  obtain ⟨fd, F⟩ := c.def_ 11 (d := d_owners) rfl
  exact ⟨_, fd, F, He.glo_ok X G (c.fact 41 (f := .glo "owners") rfl)⟩
theorem x_gathered : Df K mg "gathered" (topS 14) := by
  obtain ⟨fd, F⟩ := c.def_ 12 (d := d_gathered) rfl
  exact ⟨_, fd, F, He.glo_ok X G (c.fact 42 (f := .glo "gathered") rfl)⟩
theorem x_border : Df K mg "border" (topS 15) := by
  obtain ⟨fd, F⟩ := c.def_ 13 (d := d_border) rfl
  exact ⟨_, fd, F, He.glo_ok X G (c.fact 43 (f := .glo "border") rfl)⟩
theorem x_portal_of : Df K mg "portal_of" (topS 16) := by
  obtain ⟨fd, F⟩ := c.def_ 14 (d := d_portal_of) rfl
  exact ⟨_, fd, F, He.glo_ok X G (c.fact 44 (f := .glo "portal_of") rfl)⟩
theorem x_side_portals : Df K mg "side_portals" (topS 17) := by
  obtain ⟨fd, F⟩ := c.def_ 15 (d := d_side_portals) rfl
  exact ⟨_, fd, F, He.glo_ok X G (c.fact 45 (f := .glo "side_portals") rfl)⟩
theorem x_joined_portals : Df K mg "joined_portals" (topS 18) := by
  obtain ⟨fd, F⟩ := c.def_ 16 (d := d_joined_portals) rfl
  exact ⟨_, fd, F, He.glo_ok X G (c.fact 46 (f := .glo "joined_portals") rfl)⟩
theorem x_mesh : Df K mg "mesh" (topS 19) := by
  obtain ⟨fd, F⟩ := c.def_ 17 (d := d_mesh) rfl
  exact ⟨_, fd, F, He.glo_ok X G (c.fact 47 (f := .glo "mesh") rfl)⟩
theorem x_require : Df K mg "require" (topS 26) := by
  obtain ⟨fd, F⟩ := c.def_ 18 (d := d_require) rfl
  exact ⟨_, fd, F, He.glo_ok X G (c.fact 48 (f := .glo "require") rfl)⟩
theorem x_ceiled : Df K mg "ceiled" (topS 27) := by
  obtain ⟨fd, F⟩ := c.def_ 19 (d := d_ceiled) rfl
  exact ⟨_, fd, F, He.glo_ok X G (c.fact 49 (f := .glo "ceiled") rfl)⟩
theorem x_minus : Df K mg "minus" (topS 30) := by
  obtain ⟨fd, F⟩ := c.def_ 24 (d := d_minus) rfl
  exact ⟨_, fd, F, He.glo_ok X G (c.fact 50 (f := .glo "minus") rfl)⟩
theorem x_normal : Df K mg "normal" (topS 31) := by
  obtain ⟨fd, F⟩ := c.def_ 25 (d := d_normal) rfl
  exact ⟨_, fd, F, He.glo_ok X G (c.fact 51 (f := .glo "normal") rfl)⟩
theorem x_is_flat : Df K mg "is_flat" (topS 32) := by
  obtain ⟨fd, F⟩ := c.def_ 26 (d := d_is_flat) rfl
  exact ⟨_, fd, F, He.glo_ok X G (c.fact 52 (f := .glo "is_flat") rfl)⟩
theorem x_less : Df K mg "less" (topS 33) := by
  obtain ⟨fd, F⟩ := c.def_ 27 (d := d_less) rfl
  exact ⟨_, fd, F, He.glo_ok X G (c.fact 53 (f := .glo "less") rfl)⟩
theorem x_positive : Df K mg "positive" (topS 34) := by
  obtain ⟨fd, F⟩ := c.def_ 28 (d := d_positive) rfl
  exact ⟨_, fd, F, He.glo_ok X G (c.fact 54 (f := .glo "positive") rfl)⟩
theorem x_on_edge : Df K mg "on_edge" (topS 35) := by
  obtain ⟨fd, F⟩ := c.def_ 29 (d := d_on_edge) rfl
  exact ⟨_, fd, F, He.glo_ok X G (c.fact 55 (f := .glo "on_edge") rfl)⟩
theorem x_side : Df K mg "side" (topS 36) := by
  obtain ⟨fd, F⟩ := c.def_ 30 (d := d_side) rfl
  exact ⟨_, fd, F, He.glo_ok X G (c.fact 56 (f := .glo "side") rfl)⟩
theorem x_at_corner : Df K mg "at_corner" (topS 37) := by
  obtain ⟨fd, F⟩ := c.def_ 31 (d := d_at_corner) rfl
  exact ⟨_, fd, F, He.glo_ok X G (c.fact 57 (f := .glo "at_corner") rfl)⟩
theorem x_heights : Df K mg "heights" (topS 38) := by
  obtain ⟨fd, F⟩ := c.def_ 32 (d := d_heights) rfl
  exact ⟨_, fd, F, He.glo_ok X G (c.fact 58 (f := .glo "heights") rfl)⟩
theorem x_extent : Df K mg "extent" (topS 39) := by
  obtain ⟨fd, F⟩ := c.def_ 33 (d := d_extent) rfl
  exact ⟨_, fd, F, He.glo_ok X G (c.fact 59 (f := .glo "extent") rfl)⟩
theorem x_square : Df K mg "square" (topS 41) := by
  obtain ⟨fd, F⟩ := c.def_ 34 (d := d_square) rfl
  exact ⟨_, fd, F, He.glo_ok X G (c.fact 60 (f := .glo "square") rfl)⟩
theorem x_triangle_solid : Df K mg "triangle_solid" (topS 42) := by
  obtain ⟨fd, F⟩ := c.def_ 35 (d := d_triangle_solid) rfl
  exact ⟨_, fd, F, He.glo_ok X G (c.fact 61 (f := .glo "triangle_solid") rfl)⟩
theorem x_box_solid : Df K mg "box_solid" (topS 43) := by
  obtain ⟨fd, F⟩ := c.def_ 36 (d := d_box_solid) rfl
  exact ⟨_, fd, F, He.glo_ok X G (c.fact 62 (f := .glo "box_solid") rfl)⟩
theorem x_higher : Df K mg "higher" (topS 44) := by
  obtain ⟨fd, F⟩ := c.def_ 37 (d := d_higher) rfl
  exact ⟨_, fd, F, He.glo_ok X G (c.fact 63 (f := .glo "higher") rfl)⟩
theorem x_merged : Df K mg "merged" (topS 45) := by
  obtain ⟨fd, F⟩ := c.def_ 38 (d := d_merged) rfl
  exact ⟨_, fd, F, He.glo_ok X G (c.fact 64 (f := .glo "merged") rfl)⟩
theorem x_column : Df K mg "column" (topS 46) := by
  obtain ⟨fd, F⟩ := c.def_ 39 (d := d_column) rfl
  exact ⟨_, fd, F, He.glo_ok X G (c.fact 65 (f := .glo "column") rfl)⟩
theorem x_met_range : Df K mg "met_range" (topS 47) := by
  obtain ⟨fd, F⟩ := c.def_ 40 (d := d_met_range) rfl
  exact ⟨_, fd, F, He.glo_ok X G (c.fact 66 (f := .glo "met_range") rfl)⟩
theorem x_range_of : Df K mg "range_of" (topS 48) := by
  obtain ⟨fd, F⟩ := c.def_ 41 (d := d_range_of) rfl
  exact ⟨_, fd, F, He.glo_ok X G (c.fact 67 (f := .glo "range_of") rfl)⟩
theorem x_cells_of : Df K mg "cells_of" (topS 49) := by
  obtain ⟨fd, F⟩ := c.def_ 42 (d := d_cells_of) rfl
  exact ⟨_, fd, F, He.glo_ok X G (c.fact 68 (f := .glo "cells_of") rfl)⟩
theorem x_triangle_cells : Df K mg "triangle_cells" (topS 50) := by
  obtain ⟨fd, F⟩ := c.def_ 43 (d := d_triangle_cells) rfl
  exact ⟨_, fd, F, He.glo_ok X G (c.fact 69 (f := .glo "triangle_cells") rfl)⟩
theorem x_overlap : Df K mg "overlap" (topS 51) := by
  obtain ⟨fd, F⟩ := c.def_ 44 (d := d_overlap) rfl
  exact ⟨_, fd, F, He.glo_ok X G (c.fact 70 (f := .glo "overlap") rfl)⟩
theorem x_columns_of : Df K mg "columns_of" (topS 52) := by
  obtain ⟨fd, F⟩ := c.def_ 45 (d := d_columns_of) rfl
  exact ⟨_, fd, F, He.glo_ok X G (c.fact 71 (f := .glo "columns_of") rfl)⟩
theorem x_law_state : Df K mg "_law_state" (topS 54) := by
  obtain ⟨fd, F⟩ := c.def_ 46 (d := d_law_state) rfl
  exact ⟨_, fd, F, He.glo_ok X G (c.fact 72 (f := .glo "_law_state") rfl)⟩
theorem x_law_draw : Df K mg "_law_draw" (topS 55) := by
  obtain ⟨fd, F⟩ := c.def_ 47 (d := d_law_draw) rfl
  exact ⟨_, fd, F, He.glo_ok X G (c.fact 73 (f := .glo "_law_draw") rfl)⟩
theorem x_law_settings : Df K mg "_law_settings" (topS 56) := by
  obtain ⟨fd, F⟩ := c.def_ 48 (d := d_law_settings) rfl
  exact ⟨_, fd, F, He.glo_ok X G (c.fact 74 (f := .glo "_law_settings") rfl)⟩
theorem x_law_along : Df K mg "_law_along" (topS 57) := by
  obtain ⟨fd, F⟩ := c.def_ 49 (d := d_law_along) rfl
  exact ⟨_, fd, F, He.glo_ok X G (c.fact 75 (f := .glo "_law_along") rfl)⟩
theorem x_law_triangle : Df K mg "_law_triangle" (topS 58) := by
  obtain ⟨fd, F⟩ := c.def_ 50 (d := d_law_triangle) rfl
  exact ⟨_, fd, F, He.glo_ok X G (c.fact 76 (f := .glo "_law_triangle") rfl)⟩
theorem x_law_ground : Df K mg "_law_ground" (topS 59) := by
  obtain ⟨fd, F⟩ := c.def_ 51 (d := d_law_ground) rfl
  exact ⟨_, fd, F, He.glo_ok X G (c.fact 77 (f := .glo "_law_ground") rfl)⟩
theorem x_law_soup : Df K mg "_law_soup" (topS 60) := by
  obtain ⟨fd, F⟩ := c.def_ 52 (d := d_law_soup) rfl
  exact ⟨_, fd, F, He.glo_ok X G (c.fact 78 (f := .glo "_law_soup") rfl)⟩
theorem x_law_box : Df K mg "_law_box" (topS 61) := by
  obtain ⟨fd, F⟩ := c.def_ 53 (d := d_law_box) rfl
  exact ⟨_, fd, F, He.glo_ok X G (c.fact 79 (f := .glo "_law_box") rfl)⟩
theorem x_law_boxes : Df K mg "_law_boxes" (topS 62) := by
  obtain ⟨fd, F⟩ := c.def_ 54 (d := d_law_boxes) rfl
  exact ⟨_, fd, F, He.glo_ok X G (c.fact 80 (f := .glo "_law_boxes") rfl)⟩
theorem x_law_beyond : Df K mg "_law_beyond" (topS 63) := by
  obtain ⟨fd, F⟩ := c.def_ 55 (d := d_law_beyond) rfl
  exact ⟨_, fd, F, He.glo_ok X G (c.fact 81 (f := .glo "_law_beyond") rfl)⟩
theorem x_law_cut : Df K mg "_law_cut" (topS 64) := by
  obtain ⟨fd, F⟩ := c.def_ 56 (d := d_law_cut) rfl
  exact ⟨_, fd, F, He.glo_ok X G (c.fact 82 (f := .glo "_law_cut") rfl)⟩
theorem x_law_clip : Df K mg "_law_clip" (topS 65) := by
  obtain ⟨fd, F⟩ := c.def_ 57 (d := d_law_clip) rfl
  exact ⟨_, fd, F, He.glo_ok X G (c.fact 83 (f := .glo "_law_clip") rfl)⟩
theorem x_law_over : Df K mg "_law_over" (topS 66) := by
  obtain ⟨fd, F⟩ := c.def_ 58 (d := d_law_over) rfl
  exact ⟨_, fd, F, He.glo_ok X G (c.fact 84 (f := .glo "_law_over") rfl)⟩
theorem x_law_extent : Df K mg "_law_extent" (topS 67) := by
  obtain ⟨fd, F⟩ := c.def_ 59 (d := d_law_extent) rfl
  exact ⟨_, fd, F, He.glo_ok X G (c.fact 85 (f := .glo "_law_extent") rfl)⟩
theorem x_law_flat : Df K mg "_law_flat" (topS 68) := by
  obtain ⟨fd, F⟩ := c.def_ 60 (d := d_law_flat) rfl
  exact ⟨_, fd, F, He.glo_ok X G (c.fact 86 (f := .glo "_law_flat") rfl)⟩
theorem x_law_boxed : Df K mg "_law_boxed" (topS 69) := by
  obtain ⟨fd, F⟩ := c.def_ 61 (d := d_law_boxed) rfl
  exact ⟨_, fd, F, He.glo_ok X G (c.fact 87 (f := .glo "_law_boxed") rfl)⟩
theorem x_law_touches : Df K mg "_law_touches" (topS 70) := by
  obtain ⟨fd, F⟩ := c.def_ 62 (d := d_law_touches) rfl
  exact ⟨_, fd, F, He.glo_ok X G (c.fact 88 (f := .glo "_law_touches") rfl)⟩
theorem x_law_box_touches : Df K mg "_law_box_touches" (topS 71) := by
  obtain ⟨fd, F⟩ := c.def_ 63 (d := d_law_box_touches) rfl
  exact ⟨_, fd, F, He.glo_ok X G (c.fact 89 (f := .glo "_law_box_touches") rfl)⟩
theorem x_law_safe : Df K mg "_law_safe" (topS 72) := by
  obtain ⟨fd, F⟩ := c.def_ 64 (d := d_law_safe) rfl
  exact ⟨_, fd, F, He.glo_ok X G (c.fact 90 (f := .glo "_law_safe") rfl)⟩
theorem x_law_held : Df K mg "_law_held" (topS 73) := by
  obtain ⟨fd, F⟩ := c.def_ 65 (d := d_law_held) rfl
  exact ⟨_, fd, F, He.glo_ok X G (c.fact 91 (f := .glo "_law_held") rfl)⟩
theorem x_law : Df K mg "law" (topS 74) := by
  obtain ⟨fd, F⟩ := c.def_ 66 (d := d_law) rfl
  exact ⟨_, fd, F, He.glo_ok X G (c.fact 92 (f := .glo "law") rfl)⟩
theorem xm_has_cell : Dm K mg (CS K) "has_cell" "Settings.has_cell" (inClass (topS 28) 1) := by
  obtain ⟨fd, F⟩ := c.def_ 21 (d := d_m_has_cell) rfl
  exact ⟨_, fd, F, He.meth_ok (c.fact 27 (f := .meth "Settings" "has_cell") rfl)⟩
theorem xm_tiles : Dm K mg (CS K) "tiles" "Settings.tiles" (inClass (topS 28) 2) := by
  obtain ⟨fd, F⟩ := c.def_ 22 (d := d_m_tiles) rfl
  exact ⟨_, fd, F, He.meth_ok (c.fact 28 (f := .meth "Settings" "tiles") rfl)⟩
theorem xm_tile_cells : Dm K mg (CS K) "tile_cells" "Settings.tile_cells" (inClass (topS 28) 3) := by
  obtain ⟨fd, F⟩ := c.def_ 23 (d := d_m_tile_cells) rfl
  exact ⟨_, fd, F, He.meth_ok (c.fact 29 (f := .meth "Settings" "tile_cells") rfl)⟩
theorem tx : Tx K mg where
  len := He.free_ok X G (c.fact 0 (f := .free "len") rfl)
  abs := He.free_ok X G (c.fact 1 (f := .free "abs") rfl)
  max := He.free_ok X G (c.fact 2 (f := .free "max") rfl)
  min := He.free_ok X G (c.fact 3 (f := .free "min") rfl)
  all := He.free_ok X G (c.fact 4 (f := .free "all") rfl)
  sorted := He.free_ok X G (c.fact 5 (f := .free "sorted") rfl)
  int := He.free_ok X G (c.fact 6 (f := .free "int") rfl)
  tuple := He.free_ok X G (c.fact 7 (f := .free "tuple") rfl)
  range := He.free_ok X G (c.fact 8 (f := .free "range") rfl)
  most_cells := He.int_ok X G (c.fact 9 (f := .int "MOST_CELLS" 64) rfl)
  most_length := He.int_ok X G (c.fact 10 (f := .int "MOST_LENGTH" 1000) rfl)
  cls := He.cls_ok (c.fact 11 (f := .cls "Settings") rfl)
  gS := He.glo_ok X G (c.fact 12 (f := .glo "Settings") rfl)
  n_columns := He.noat_ok (c.fact 14 (f := .noat "Settings" "columns") rfl)
  n_rows := He.noat_ok (c.fact 15 (f := .noat "Settings" "rows") rfl)
  n_cell := He.noat_ok (c.fact 16 (f := .noat "Settings" "cell") rfl)
  n_level := He.noat_ok (c.fact 17 (f := .noat "Settings" "level") rfl)
  n_width := He.noat_ok (c.fact 18 (f := .noat "Settings" "width") rfl)
  n_height := He.noat_ok (c.fact 19 (f := .noat "Settings" "height") rfl)
  n_step := He.noat_ok (c.fact 20 (f := .noat "Settings" "step") rfl)
  n_slope := He.noat_ok (c.fact 21 (f := .noat "Settings" "slope") rfl)
  n_slack := He.noat_ok (c.fact 22 (f := .noat "Settings" "slack") rfl)
  n_tile := He.noat_ok (c.fact 23 (f := .noat "Settings" "tile") rfl)
  n_tall := He.noat_ok (c.fact 24 (f := .noat "Settings" "tall") rfl)
  n_rise := He.noat_ok (c.fact 25 (f := .noat "Settings" "rise") rfl)
  n_reach := He.noat_ok (c.fact 26 (f := .noat "Settings" "reach") rfl)
  open_levels := x_open_levels X G c
  is_free := x_is_free X G c
  has_room := x_has_room X G c
  levels_of := x_levels_of X G c
  floors_of := x_floors_of X G c
  partner := x_partner X G c
  grown_right := x_grown_right X G c
  row_below := x_row_below X G c
  plate_at := x_plate_at X G c
  tile_plates := x_tile_plates X G c
  plate_floors := x_plate_floors X G c
  owners := x_owners X G c
  gathered := x_gathered X G c
  border := x_border X G c
  portal_of := x_portal_of X G c
  side_portals := x_side_portals X G c
  joined_portals := x_joined_portals X G c
  mesh := x_mesh X G c
  require := x_require X G c
  ceiled := x_ceiled X G c
  minus := x_minus X G c
  normal := x_normal X G c
  is_flat := x_is_flat X G c
  less := x_less X G c
  positive := x_positive X G c
  on_edge := x_on_edge X G c
  side := x_side X G c
  at_corner := x_at_corner X G c
  heights := x_heights X G c
  extent := x_extent X G c
  square := x_square X G c
  triangle_solid := x_triangle_solid X G c
  box_solid := x_box_solid X G c
  higher := x_higher X G c
  merged := x_merged X G c
  column := x_column X G c
  met_range := x_met_range X G c
  range_of := x_range_of X G c
  cells_of := x_cells_of X G c
  triangle_cells := x_triangle_cells X G c
  overlap := x_overlap X G c
  columns_of := x_columns_of X G c
  law_state := x_law_state X G c
  law_draw := x_law_draw X G c
  law_settings := x_law_settings X G c
  law_along := x_law_along X G c
  law_triangle := x_law_triangle X G c
  law_ground := x_law_ground X G c
  law_soup := x_law_soup X G c
  law_box := x_law_box X G c
  law_boxes := x_law_boxes X G c
  law_beyond := x_law_beyond X G c
  law_cut := x_law_cut X G c
  law_clip := x_law_clip X G c
  law_over := x_law_over X G c
  law_extent := x_law_extent X G c
  law_flat := x_law_flat X G c
  law_boxed := x_law_boxed X G c
  law_touches := x_law_touches X G c
  law_box_touches := x_law_box_touches X G c
  law_safe := x_law_safe X G c
  law_held := x_law_held X G c
  law := x_law X G c
  m_has_cell := xm_has_cell X G c
  m_tiles := xm_tiles X G c
  m_tile_cells := xm_tile_cells X G c
  init := by
    obtain ⟨fd, F⟩ := c.def_ 20 (d := d_m_init) rfl
    exact ⟨_, fd, F, He.mkr_ok (c.fact 13 (f := .mkr "Settings") rfl)⟩
theorem tz {base : Heap} (t : LamX.TabB base mg (He.cT K ("merged", none)).1 (He.cT K ("merged", none)).2) : Tz K mg base := by
  obtain ⟨fd, F⟩ := c.def_ 38 (d := d_merged) rfl
  exact ⟨⟨fd, F, He.glo_ok X G (c.fact 64 (f := .glo "merged") rfl)⟩, t⟩
end
theorem law_at {w : World} {K : PySem.W.Frag} {h : Heap} {mg : Str → Option Value} {fa_ : Addr} (X : K.In h) (G : h.Ns mainGlobals mg) (c : He.SaysX fa fn [] tf ex w h K) (hfa : mg ("law" : Str) = some (.ref fa_)) :
    LamX.LawAtS PySem.Challenge.rw_footpath_k60_whole_floors_are_safe w K CX0 9 63 "_law_script" mg fa_ h := by
  obtain ⟨fd, F⟩ := c.t.d.def_ 66 (d := d_law) rfl
  have T := tx X G c.t.d
  have e := hfa.symm.trans (He.glo_ok X G (c.t.d.fact 92 (f := .glo "law") rfl))
  cases e
  have hm : (("merged", none) : He.Defn) ∈ tf := List.mem_singleton.mpr rfl
  refine ⟨fd, [He.cT K ("merged", none)], sp_law K, fun p hp => ?_, fun p hp => ?_, fun p hp => ?_, ?_, fun H a ns hl _ hT hS => ?_, fun base KB GB TB => ?_⟩
  · rw [List.mem_singleton.mp hp]; exact c.empty _ hm
  · rw [List.mem_singleton.mp hp]; exact c.out _ hm
  · rw [List.mem_singleton.mp hp]; exact PySem.W.codeHd_of_K X (c.hd _ hm)
  · have b := FunD.bindsA (ps := ["_law_script"]) F fun _ _ _ _ _ _ us hl => match us, hl with | [_], _ => rfl
    exact fun s u => b s [u] rfl
  · refine ⟨a, ns, rfl, hS, Nat.le_trans hl (by decide), fun p hp => ?_, fun _ => rfl⟩
    rw [List.mem_singleton.mp hp]
    exact LamX.TabS.nil (hT _ (List.mem_singleton.mpr rfl))
  · exact ok_law T (tz X G c.t.d (TB _ (List.mem_singleton.mpr rfl))) F
end
end Fp
theorem PySem.Challenge.cw_footpath_k60_whole_floors_are_safe_holds : PySem.Challenge.rw_footpath_k60_whole_floors_are_safe.Holds :=
  FpH.holds_of fun _ _ _ _ _ X c G e => Fp.law_at X G c e
